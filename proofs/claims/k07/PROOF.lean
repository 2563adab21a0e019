import PyProof.Rows.All
import Wide.All
import OpenK.AllK
import Wide.FinOn
import HandS.ForMost
import HandS.ForExc
import HandS.CallSlots
import HandS.IsInst
import HandS.Wide
import HandS.SlotsVar
import HandS.Slots
import HandS.SlotsOwn
import HandS.Lambda
import KE.DataEq
import KE.DataCmp
import HandS.TupAny
import HandS.Walk
import HandS.Iter
import HandS.SortInts
import HandS.Zip
import KE.KSortedM
import HandS.Text
import HandS.Conv
import PyProof.SeqIndex
import KE.KIndexOf
import PyProof.LongRange
import PyProof.ListOps
import PyProof.AutoSeq1
import HandS.Dict
import HandS.ListItems
import KE.KDictList
import HandS.Star
import HandS.SetFor
import HandS.Strs
import KE.GoesEnum
import PyProof.ReprRoads
import PyProof.StrOps2
import HandS.RaiseMore
import HandS.TupMul
import HandS.Defaults
import HandS.MakeKwOnly
import HandS.SortKw
import KE.DataMinMax
import HandS.Style
import HandS.Set
import PyProof.SetKind
import PyProof.MeetsSeq2
import PyProof.FactsAll.set_1
import PyProof.SetNew
import KE.GoesSet
import KE.KSortTup
import HandS.SortOrd
import HandS.TupSets
import HandS.NamedTupSort
import HandS.Remove
import PyProof.RulesMatch
import PyProof.CallFns
import HandS.More
import HandS.WordsDict
import HandS.DictComp
import KE.KEqNest
import KE.KEqDict
import PyProof.NeKinds
import PyProof.Claim2Refuses
import PyProof.Rows.SortKeyStr
import KE.KAssignIn
import HandS.ClsMeth
import PyProof.InstEq
import HandS.FStr
import HandS.OwnEq
import KE.KDictOf
import HandS.TryMany
import HandS.EndTab
import PySem.Challenge.RW_halvesmeet_k07_errors_of_deeds
import PyProof.ExcBaseAll.ValueError
set_option Elab.async false
set_option linter.all false
set_option maxRecDepth 100000
/-! DL0: promises of defs that hold where no repr is under way (the guards are told). -/
namespace DL
open PySem PySem.Spec PyProof.Rows L2

structure RoomG (k : Nat) (A : Around) : Prop where
  r : Room k A
  gd : A.guards = some []
theorem RoomG.mono {j k : Nat} {A : Around} (h : RoomG k A) (q : j ≤ k) : RoomG j A := ⟨h.r.mono q, h.gd⟩
theorem RoomG.deeper {k : Nat} {A : Around} (h : RoomG (k + 1) A) (env : Env) : RoomG k (A.deeper env) := ⟨h.r.deeper env, h.gd⟩

/-- a def's promise, the guards told -/
structure FnG (P : Program) (w : World) (K : PySem.W.Frag) (mg : Str → Option Value) (base : Heap) (CX : CXT) (k : Nat) (f : Addr) (fd : FuncData) (ps : List Str) (sp : Sp) : Prop where
  len : ∀ xs H0 Q0 E0, sp xs H0 Q0 E0 → xs.length = ps.length
  run : ∀ (B : Around) (fr : List Env) (sh : Shared) (H0 : Hp) (ar : Args) (us0 : List Value) (xs : List V) (Q0 : VK) (E0 : XK),
    RoomG k B → Env0 P w K mg base B fr sh H0 → BindsTo sh fd ar (ps.zip us0) → Vals xs us0 →
    sp xs H0 Q0 E0 → codeAny (model P w) B (.call (.ref f) ar) (CR CX fr P w H0 sh Q0 E0) sh
theorem FnG.mono {P : Program} {w : World} {K : PySem.W.Frag} {mg : Str → Option Value} {base : Heap} {CX : CXT} {j k : Nat} {f : Addr} {fd : FuncData} {ps : List Str} {sp : Sp}
    (F : FnG P w K mg base CX j f fd ps sp) (h : j ≤ k) : FnG P w K mg base CX k f fd ps sp :=
  ⟨F.len, fun B fr sh H0 ar us0 xs Q0 E0 g => F.run B fr sh H0 ar us0 xs Q0 E0 (g.mono h)⟩

theorem fnG_of {CX : CXT} {P : Program} {w : World} {K : PySem.W.Frag} {mg : Str → Option Value} {base : Heap} {k : Nat} {f : Addr} {nm qu : Str} {pa : Arguments} {bd : List Stmt} {sc : Scope} {dV kV dc pm cdv ct oc : Value} {an od : Option Addr}
    {osl : Array (Option Value)} {N ps : List Str} {sp : Sp}
    (there : K.lookup f = some ⟨oc, od, .func (PySem.W.fnOf nm qu pa bd sc dV kV dc pm an cdv ct), osl⟩)
    (code : PySem.W.codeIn K cdv qu = true) (S : FnScope N ps sc)
    (len : ∀ xs H0 Q0 E0, sp xs H0 Q0 E0 → xs.length = ps.length)
    (hbody : ∀ (B : Around) (fr : List Env) (sh : Shared) (H0 : Hp) (xs : List V) (Q0 : VK) (E0 : XK),
      RoomG k (B.deeper (envOfC qu sc sh.heap.objs.size f cdv)) → sp xs H0 Q0 E0 →
      ∃ t, PSs (cxOf CX P w K mg base N qu sc f cdv B fr sh H0 E0) bd t ∧
        t { nx := fun _ H1 => Q0 .non H1, rt := Q0 } (start N xs) H0) :
    FnG P w K mg base CX (k + 1) f (PySem.W.fnOf nm qu pa bd sc dV kV dc pm an cdv ct) ps sp := by
  refine ⟨len, fun B fr sh H0 ar us0 xs Q0 E0 gr en bi vr want => ?_⟩
  have many := len _ _ _ _ want
  have KH : K.In sh.heap := en.mod.kin.keeps fun c ob z => (en.bs c ob z).1
  have noLim : sh.heap.NoLimit := en.mod.nolimit.keeps fun c ob z => (en.bs c ob z).1
  have kinds : ∀ y ∈ ps.zip us0, sc.names.lookup y.1 = some .local ∨
      (sc.names.lookup y.1 = some .cell ∧ ((cellsFrom (sh.heap.objs.size + 1) sc.names []).lookup y.1).isSome = true) := fun ⟨n, v⟩ hy => by
    rcases S.par n (List.of_mem_zip hy).1 with loc | cel
    · exact Or.inl loc
    · exact Or.inr ⟨cel, PySem.W.cellsFrom_some _ _ _ (Or.inl cel)⟩
  refine codeAny_call_function gr.r.depth (KH _ _ there) rfl S.co S.gen rfl (PySem.W.codeRec_of KH code) (bi _ _ _ _ ?_)
  refine wpAny_newFunctionEnv_cells S.kind kinds fun env eqn sh1 call => ?_
  subst eqn
  refine ⟨noLim.keeps call.toInCall.keep, codeAny_func ?_⟩
  obtain ⟨t, ht, hq⟩ := hbody B fr sh H0 xs Q0 E0 (gr.deeper _) want
  have beg := inv_start (CX := CX) (P := P) (E := E0) S gr.r.hd en many vr call
  refine wpAny_mono (ht.run [] sh1 (start N xs) H0 _ beg hq) (fun fl sh' got => ?_) fun e sh' got => got
  have close : ∀ {σ' : L2.St} {H1 : Hp} {v : V} {u : Value},
      Inv (cxOf CX P w K mg base N qu sc f cdv B fr sh H0 E0) [] σ' H1 sh' → RelV v u → Q0 v H1 → CE fr P w H0 sh Q0 u sh' :=
    fun {σ' H1 v u} J rv q => ⟨v, H1, J.os, J.bare, J.base, J.hok, rv, q⟩
  match fl, got with
  | .ret u, ⟨v, σ', H1, J, rv, q⟩ => exact close J rv q
  | .next, ⟨σ', H1, J, q⟩ => exact close (v := V.non) (u := Value.none) J rfl q
  | .brk, ⟨_, _, _, q⟩ => exact q.elim
  | .cont, ⟨_, _, _, q⟩ => exact q.elim

theorem Fun.okG {P : Program} {w : World} {K : PySem.W.Frag} {mg : Str → Option Value} {base : Heap} {x qual : Str} {st : Stmt} {f : Addr} {fd : FuncData} {N ps : List Str} {k : Nat} {sp : Sp} (F : Fun K x qual st f fd)
    (S : FnScope N ps (defScope st)) (len : ∀ xs H0 Q0 E0, sp xs H0 Q0 E0 → xs.length = ps.length)
    (hbody : ∀ (cdv : Value) (B : Around) (fr : List Env) (sh : Shared) (H0 : Hp) (xs : List V) (Q0 : VK) (E0 : XK),
      RoomG k (B.deeper (envOfC qual (defScope st) sh.heap.objs.size f cdv)) → sp xs H0 Q0 E0 →
      ∃ t, PSs (cxOf (L2.CX P w) P w K mg base N qual (defScope st) f cdv B fr sh H0 E0) (defBody st) t ∧
        t { nx := fun _ H1 => Q0 .non H1, rt := Q0 } (start N xs) H0) : FnG P w K mg base (L2.CX P w) (k + 1) f fd ps sp := by
  obtain ⟨oc, od, kV, doc, pm, an, cdv, ct, osl, rfl, lk, hcd⟩ := F.ex
  exact fnG_of lk hcd S len fun B fr sh H0 xs Q0 E0 hr => hbody cdv B fr sh H0 xs Q0 E0 hr

section
variable {X : Cx} {CX : CXT} {k : Nat} {f : Addr} {fd : FuncData} {ps : List Str} {sp : Sp} {E : L2.St → XK} {x : Str} {p pos : Pos} {e : Expr} {es : List Expr} {t : TA}
/-- the callee runs; ds fills up -/
theorem run_G {pins : List (Addr × Obj)} {σ : L2.St} {H : Hp} {s : Shared} {Q : VK} {us ds : List Value} {vs dvs : List V}
    (F : FnG X.prog X.w X.K X.mg X.base CX k f fd ps sp) (g : RoomG k X.A) (hb : Binds X.K fd ps ds) (hd : Vals dvs ds)
    (hx : PassesAt CX X σ (E σ)) (I : Inv X pins σ H s) (r : Vals vs us) (h : sp (vs ++ dvs) H Q (E σ)) :
    wpAny (model X.prog X.w) X.A (call (.ref f) us) (EP X pins σ Q) X.xe s := by
  have rr := r.append hd
  have le : (us ++ ds).length = ps.length := rr.length.symm.trans (F.len _ _ _ _ h)
  have go := F.run X.A X.stack s H ⟨us, []⟩ (us ++ ds) (vs ++ dvs) Q (E σ) g I.env0 (hb s us I.kIn le) rr h
  refine wpAny_call (codeAny_mono go fun res s' hq => ?_)
  match res, hq with
  | .error e, hq => exact hx pins H s e s' I hq
  | .ok (.ret u), hq => exact I.after hq
  | .ok .next, hq => exact hq.elim
  | .ok .brk, hq => exact hq.elim
  | .ok .cont, hq => exact hq.elim
theorem pe_callG {ds : List Value} {dvs : List V} (F : FnG X.prog X.w X.K X.mg X.base CX k f fd ps sp) (g : RoomG k X.A) (gl : Gl X x) (hm : X.mg x = some (.ref f))
    (kp : PySem.W.keepIn X.K (.ref f) = true) (hb : Binds X.K fd ps ds) (hd : Vals dvs ds) (hx : ∀ σ, PassesAt CX X σ (E σ)) (ha : PA X (e :: es) t)
    (hdb : (x == ("__debug__" : Str)) = false := by decide)
    (he : starEach (e :: es) X.env = (false, eval e X.env) :: starEach es X.env := by rfl)
    (hpl : (backTo pos (starEach es X.env)).any (·.1) = false := by rfl) :
    PE X (.Call (.Name x p) (e :: es) [] pos) (tCallSD sp dvs E t) := by
  constructor
  intro pins s σ H Q I h
  apply wpAny_Call_Name_kw
  apply ld_glob I gl hm ?_ hdb
  apply PySem.W.callWith_K (h₀ := X.base) I.ok.mod.kin kp (thn (ha.run pos pins s σ H _ I h) ?_) he hpl
  rintro us s1 ⟨vs, H1, I1, r, q⟩
  exact ⟨I1.kIn, run_G F g hb hd (hx σ) I1 r q⟩
theorem pe_callG0 {ds : List Value} {dvs : List V} (F : FnG X.prog X.w X.K X.mg X.base CX k f fd ps sp) (g : RoomG k X.A) (gl : Gl X x) (hm : X.mg x = some (.ref f))
    (kp : PySem.W.keepIn X.K (.ref f) = true) (hb : Binds X.K fd ps ds) (hd : Vals dvs ds) (hx : ∀ σ, PassesAt CX X σ (E σ))
    (hdb : (x == ("__debug__" : Str)) = false := by decide) : PE X (.Call (.Name x p) [] [] pos) (tCallSD sp dvs E tNil) := by
  constructor
  intro pins s σ H Q I h
  apply wpAny_Call_Name_kw
  apply ld_glob I gl hm ?_ hdb
  exact PySem.W.callWith_K0 I.kIn kp (run_G (us := []) F g hb hd (hx σ) I .nil h)
end

/-- the law's own call -/
theorem law_callG {P : Program} {w : World} {K : PySem.W.Frag} {mg mb : Str → Option Value} {CX : CXT} {k : Nat} {fa a : Addr} {fd : FuncData} {x : Str} {sp : Sp} {sh : Shared} {vs : List Value} {ns : List Int}
    (KH : K.In sh.heap) (hns : sh.heap.Ns mainGlobals mg) (hbl : sh.heap.Ns builtinsNs mb) (hboot : ∀ x : Str, x ≠ "__name__" → mb x = bootBuiltins x)
    (hlim : sh.heap.NoLimit) (hgen : sh.gens = #[]) (here : sh.heap.get? a = some { cls := .type "list", data := .seq vs.toArray })
    (hi : IntsAre vs ns) (short : ns.length ≤ sizeLine) (room : Room k callerA)
    (F : ∀ base : Heap, K.In base → base.Ns mainGlobals mg → FnG P w K mg base CX k fa fd [x] sp)
    (hbind : ∀ (s : Shared) (u : Value), BindsTo s fd ⟨[u], []⟩ [(x, u)])
    (hsp : ∀ H0 : Hp, Only H0 → SqL K H0 a (ns.map V.int) → sp [.ref a] H0 (fun v _ => v = .bl true) fun _ _ _ => False)
    (hCX : ∀ H0 e s', CX [] H0 sh (fun _ _ _ => False) e s' → False) :
    codeAny (model P w) callerA (.call (.ref fa) ⟨[.ref a], []⟩)
      (fun r s' => r = .ok (.ret (.bool true)) ∧ OldK sh.heap s'.heap ∧ s'.os = sh.os ∧ AllBare s'.gens) sh := by
  have vals := vals_ints hi
  have same := hi.length
  -- at an abstract heap that tracks nothing but the script
  have main : ∀ H0 : Hp, Only H0 → SqL K H0 a (ns.map V.int) → HOk P w H0 sh.heap → (∀ c, H0 c ≠ none → c = a) → (H0 a ≠ none → K.lookup a = none) →
      codeAny (model P w) callerA (.call (.ref fa) ⟨[.ref a], []⟩)
        (fun r s' => r = .ok (.ret (.bool true)) ∧ OldK sh.heap s'.heap ∧ s'.os = sh.os ∧ AllBare s'.gens) sh := by
    intro H0 only sq ok one out
    have old : ∀ {c : Addr} {ob : Obj}, sh.heap.get? c = some ob → H0 c = none → (hidT sh.heap H0).get? c = some ob := fun z n => hidT_get z n
    have notS : ∀ {c : Addr} {ob : Obj} {es : Array DictEntry} {ep : Nat}, sh.heap.get? c = some ob → ob.data = .dict es ep → H0 c = none := by
      intro c ob es ep z dd
      refine Classical.byContradiction fun nn => ?_
      have : c = a := one c nn
      rw [this, here] at z
      cases z
      have d2 : Data.seq vs.toArray _ = Data.dict es ep := dd
      cases d2
    have spaces : ∀ {c : Addr} {m : Str → Option Value}, sh.heap.Ns c m → (hidT sh.heap H0).Ns c m := by
      rintro c m ⟨ob, es, ep, z, dd, rest⟩
      exact ⟨ob, es, ep, old z (notS z dd), dd, rest⟩
    have inK : K.In (hidT sh.heap H0) := by
      intro c ob z
      refine old (KH c ob z) ?_
      refine Classical.byContradiction fun nn => ?_
      have : c = a := one c nn
      subst this
      rw [out nn] at z
      cases z
    have md : Mod K mg (hidT sh.heap H0) := ⟨inK, spaces hns, ⟨mb, spaces hbl, hboot⟩, hlim.elim fun mc q => ⟨mc, spaces q.1, q.2⟩⟩
    have en : Env0 P w K mg (hidT sh.heap H0) callerA [] sh H0 :=
      ⟨rfl, md, fun c ob z => of_hidT z, Nat.le_of_eq (hidT_size _ _), trivial, fun c hc => absurd (show c ∈ ([] : List Addr) from hc) (by simp), ok, .of_eq hgen⟩
    have go := (F _ inK (spaces hns)).run callerA [] sh H0 ⟨[.ref a], []⟩ [.ref a] [.ref a] _ _ ⟨room, rfl⟩ en (hbind sh (.ref a)) (.cons rfl .nil) (hsp H0 only sq)
    refine codeAny_mono go fun r s' h => ?_
    match r, h with
    | .error e, h => exact (hCX H0 e s' h).elim
    | .ok .next, h => exact h.elim
    | .ok .brk, h => exact h.elim
    | .ok .cont, h => exact h.elim
    | .ok (.ret u), ⟨v, H1, os, bare, un, ok1, rv, q⟩ =>
      have q : v = .bl true := q
      subst q
      obtain rfl : u = Value.bool true := rv
      refine ⟨rfl, OldK.of_keep fun c ob z => ?_, os, bare⟩
      cases at0 : H0 c with
      | none => exact un.keep c ob z at0 (by intro y; exact absurd (show c ∈ ([] : List Addr) from y) (by simp)) (by simp)
      | some t =>
        rcases only c with y | ⟨o2, ys, y⟩
        · rw [at0] at y; cases y
        · have y2 := un.frzs c o2 _ y
          have z1 := (ok c _ y).1
          rw [z] at z1
          cases z1
          exact (ok1 c _ y2).1
  cases look : K.lookup a with
  | some ob =>
    have z := KH a ob look
    rw [here] at z
    cases z
    refine main (fun _ => none) (fun _ => Or.inl rfl) (Or.inr ⟨_, vs.toArray, _, look, rfl, rfl, rfl, ?_, ?_⟩) (fun c u y => ?_) (fun c y => absurd rfl y) fun y => absurd rfl y
    · rw [List.size_toArray, same]; exact short
    · simpa using vals
    · have y' : (none : Option HO) = some u := y
      cases y'
  | none =>
    let ob : Obj := { cls := .type "list", data := .seq vs.toArray }
    refine main (fun c => if c = a then some (.frz ob (.lst (ns.map V.int))) else none) (fun c => ?_) (Or.inl (Or.inr ⟨ob, if_pos rfl⟩)) (fun c u y => ?_) (fun c y => ?_) fun _ => look
    · by_cases hc : c = a
      · exact Or.inr ⟨_, _, if_pos hc⟩
      · exact Or.inl (if_neg hc)
    · by_cases hc : c = a
      · have y' := (if_pos hc).symm.trans y
        cases y'
        subst hc
        exact ⟨here, by rw [List.length_map]; exact short, vs, _, vals, here⟩
      · have y' := (if_neg hc).symm.trans y
        cases y'
    · exact Classical.byContradiction fun hc => absurd (if_neg hc) y

theorem walk_G {l : PySem.W.OpenLaw} {n k : Nat} {q : Program} {loose : List Str} {XP : (Str → Option Value) → Heap → Prop} {YP : World → Heap → Prop} {d : DefRec} {K : Params → PySem.W.Frag} {CX : World → CXT} {sp : World → Sp} {x : Str}
    (hn : l.most = some n) (hn2 : n ≤ sizeLine) (hdf : d.params.defaults = []) (room : Room k callerA)
    (hY : ∀ (w : World) (h : Heap), YP w h → (K w.params).In h)
    (F : ∀ (w : World) (mg : Str → Option Value) (fa : Addr) (h : Heap), (K w.params).In h → h.Ns mainGlobals mg → mg d.name = some (.ref fa) →
      ∃ fd : FuncData, (∀ (s : Shared) (u : Value), BindsTo s fd ⟨[u], []⟩ [(x, u)]) ∧
        ∀ base : Heap, (K w.params).In base → base.Ns mainGlobals mg → FnG l.prog w (K w.params) mg base (CX w) k fa fd [x] (sp w))
    (hsp : ∀ (w : World) (H0 : Hp) (a : Addr) (ns : List Int), ns.length ≤ n → Only H0 → SqL (K w.params) H0 a (ns.map V.int) →
      sp w [.ref a] H0 (fun v _ => v = .bl true) fun _ _ _ => False)
    (hCX : ∀ (w : World) (H0 : Hp) (s : Shared) (e : Value) (s' : Shared), CX w [] H0 s (fun _ _ _ => False) e s' → False) :
    PySem.W.WalkO q loose XP YP l.row.toRowW d [] (fun f vs => PySem.call f vs) := by
  refine Att.attach_call hn hdf ?_
  intro w s₀ s₁ mg mb fa o pm cd doc a vs ns G Y ho hd hcd hmg hobj hints hlen hg
  have KH := hY w _ Y
  obtain ⟨fd, hb, hF⟩ := F w mg fa _ KH G.T.g hmg
  exact law_callG KH G.T.g G.T.b G.T.builtins G.T.nolimit hg hobj hints (Nat.le_trans hlen hn2) room hF hb
    (fun H0 hO hS => hsp w H0 a ns hlen hO hS) fun H0 e s' => hCX w H0 s₁ e s'
end DL

set_option Elab.async false
set_option linter.all false
set_option maxRecDepth 100000
/-! DL1: structural values, the frozen heap, the judgements. -/
namespace DL
open PySem PySem.Spec PyProof.Rows L2

/-- structural values; ref: a tracked object; dic: keys and values abreast; ptp: a tuple that a walk made; obj: an instance (of the class at C, with slots) that nobody writes to -/
inductive D where
  | non | bl (b : Bool) | int (i : Int) | str (x : Str)
  | tup (ds : List D) | lst (ds : List D) | dic (ks : List Key) (ds : List D) | ref (a : Addr) | ptp (ds : List D) | obj (C : Addr) (ds : List D)

/-- a tuple that is known to have no dict of its own -/
def SqN (K : PySem.W.Frag) (F : Hp) (a : Addr) (xs : List V) : Prop :=
  (∃ o : Obj, F a = some (.frz o (.tup xs)) ∧ o.dict = none) ∨
    ∃ (o : Obj) (its : Array Value) (n : Nat), K.lookup a = some o ∧ o.cls = .type "tuple" ∧ o.dict = none ∧ o.data = .seq its n ∧ its.size ≤ sizeLine ∧ Vals xs its.toList
theorem SqN.sqT {K : PySem.W.Frag} {F : Hp} {a : Addr} {xs : List V} (h : SqN K F a xs) : SqT K F a xs := by
  rcases h with ⟨o, h, _⟩ | ⟨o, its, n, h1, h2, _, h3, h4, h5⟩
  · exact .inl (.inr ⟨o, h⟩)
  · exact .inr ⟨o, its, n, h1, h2, h3, h4, h5⟩

mutual
inductive Rep (K : PySem.W.Frag) (F : Hp) : V → D → Prop
  | non : Rep K F .non .non
  | bl (b : Bool) : Rep K F (.bl b) (.bl b)
  | int (i : Int) : Rep K F (.int i) (.int i)
  | str (x : Str) : Rep K F (.str x) (.str x)
  | tup {a : Addr} {xs : List V} {ds : List D} : SqN K F a xs → RepL K F xs ds → Rep K F (.ref a) (.tup ds)
  | ptp {a : Addr} {xs : List V} {ds : List D} : SqT K F a xs → RepL K F xs ds → Rep K F (.ref a) (.ptp ds)
  | lst {a : Addr} {xs : List V} {ds : List D} : SqL K F a xs → RepL K F xs ds → Rep K F (.ref a) (.lst ds)
  | dic {a : Addr} {o : Obj} {kvs : List (Key × V)} {ks : List Key} {ds : List D} : F a = some (.frz o (.dK kvs)) → kvs.map (·.1) = ks → ks.Nodup → RepL K F (kvs.map (·.2)) ds → Rep K F (.ref a) (.dic ks ds)
  | ref (a : Addr) : Rep K F (.ref a) (.ref a)
  | obj {a C dx : Addr} {xs : List V} {ds : List D} : F a = some (SlX.SlO a C dx (xs.map some)) → F dx = some (.xd []) → RepL K F xs ds → Rep K F (.ref a) (.obj C ds)
inductive RepL (K : PySem.W.Frag) (F : Hp) : List V → List D → Prop
  | nil : RepL K F [] []
  | cons {v : V} {vs : List V} {d : D} {ds : List D} : Rep K F v d → RepL K F vs ds → RepL K F (v :: vs) (d :: ds)
end

theorem same_sqT {K : PySem.W.Frag} {H H' : Hp} {a : Addr} {xs : List V} (e : Same H H') (h : SqT K H a xs) : SqT K H' a xs := by
  rcases h with (h | ⟨o, h⟩) | h
  · exact .inl (.inl (e _ _ h))
  · exact .inl (.inr ⟨o, e _ _ h⟩)
  · exact .inr h

theorem same_sqN {K : PySem.W.Frag} {H H' : Hp} {a : Addr} {xs : List V} (e : Same H H') (h : SqN K H a xs) : SqN K H' a xs := by
  rcases h with ⟨o, h, z⟩ | h
  · exact .inl ⟨o, e _ _ h, z⟩
  · exact .inr h

mutual
theorem Rep.mono {K : PySem.W.Frag} {F F' : Hp} (e : Same F F') : ∀ {d : D} {v : V}, Rep K F v d → Rep K F' v d
  | .non, _, h => by cases h; exact .non
  | .bl b, _, h => by cases h; exact .bl b
  | .int b, _, h => by cases h; exact .int b
  | .str b, _, h => by cases h; exact .str b
  | .ref b, _, h => by cases h; exact .ref b
  | .tup ds, _, h => by
    cases h with
    | tup hs hr => exact .tup (same_sqN e hs) (RepL.mono e hr)
  | .ptp ds, _, h => by
    cases h with
    | ptp hs hr => exact .ptp (same_sqT e hs) (RepL.mono e hr)
  | .lst ds, _, h => by
    cases h with
    | lst hs hr => exact .lst (e.seq hs) (RepL.mono e hr)
  | .dic ks ds, _, h => by
    cases h with
    | dic hs hk hn hr => exact .dic (e _ _ hs) hk hn (RepL.mono e hr)
  | .obj C ds, _, h => by
    cases h with
    | obj h1 h2 hr => exact .obj (e _ _ h1) (e _ _ h2) (RepL.mono e hr)
theorem RepL.mono {K : PySem.W.Frag} {F F' : Hp} (e : Same F F') : ∀ {ds : List D} {vs : List V}, RepL K F vs ds → RepL K F' vs ds
  | [], _, h => by cases h; exact .nil
  | d :: ds, _, h => by
    cases h with
    | cons h1 h2 => exact .cons (Rep.mono e h1) (RepL.mono e h2)
end

section
variable {K : PySem.W.Frag} {F F' : Hp}
theorem RepL.length : ∀ {vs : List V} {ds : List D}, RepL K F vs ds → vs.length = ds.length
  | _, _, .nil => rfl
  | _, _, .cons _ t => by simp [RepL.length t]
theorem RepL.get : ∀ {vs : List V} {ds : List D} {i : Nat} {d : D}, RepL K F vs ds → ds[i]? = some d → ∃ v, vs[i]? = some v ∧ Rep K F v d
  | _, _, _, _, .nil, e => by simp at e
  | _, _, 0, _, .cons r _, e => by simp at e; subst e; exact ⟨_, rfl, r⟩
  | _, _, i + 1, d, .cons _ t, e => by
    obtain ⟨u, h1, h2⟩ := RepL.get (i := i) (d := d) t (by simpa using e)
    exact ⟨u, by simpa using h1, h2⟩
theorem RepL.getV : ∀ {vs : List V} {ds : List D} {i : Nat} {v : V}, RepL K F vs ds → vs[i]? = some v → ∃ d, ds[i]? = some d ∧ Rep K F v d
  | _, _, _, _, .nil, e => by simp at e
  | _, _, 0, _, .cons r _, e => by simp at e; subst e; exact ⟨_, rfl, r⟩
  | _, _, i + 1, d, .cons _ t, e => by
    obtain ⟨u, h1, h2⟩ := RepL.getV (i := i) (v := d) t (by simpa using e)
    exact ⟨u, by simpa using h1, h2⟩
theorem RepL.append : ∀ {vs ws : List V} {ds es : List D}, RepL K F vs ds → RepL K F ws es → RepL K F (vs ++ ws) (ds ++ es)
  | _, _, _, _, .nil, h => h
  | _, _, _, _, .cons r t, h => .cons r (RepL.append t h)
theorem RepL.take : ∀ {vs : List V} {ds : List D} (n : Nat), RepL K F vs ds → RepL K F (vs.take n) (ds.take n)
  | _, _, 0, _ => .nil
  | _, _, _ + 1, .nil => .nil
  | _, _, n + 1, .cons r t => .cons r (RepL.take n t)
theorem RepL.drop : ∀ {vs : List V} {ds : List D} (n : Nat), RepL K F vs ds → RepL K F (vs.drop n) (ds.drop n)
  | _, _, 0, r => r
  | _, _, _ + 1, .nil => .nil
  | _, _, n + 1, .cons _ t => RepL.drop n t
theorem RepL.set {v : V} {d : D} (r : Rep K F v d) : ∀ {vs : List V} {ds : List D} (n : Nat), RepL K F vs ds → RepL K F (vs.set n v) (ds.set n d)
  | _, _, _, .nil => .nil
  | _, _, 0, .cons _ t => .cons r t
  | _, _, n + 1, .cons q t => .cons q (RepL.set r n t)
theorem RepL.reverse {vs : List V} {ds : List D} (h : RepL K F vs ds) : RepL K F vs.reverse ds.reverse := by
  induction vs generalizing ds with
  | nil => cases h; exact .nil
  | cons v vs ih =>
    cases h with
    | cons r t =>
      rw [List.reverse_cons, List.reverse_cons]
      exact (ih t).append (.cons r .nil)
theorem RepL.one {v : V} {d : D} (r : Rep K F v d) : RepL K F [v] [d] := .cons r .nil
end

mutual
/-- no list, no dict within -/
def nol : D → Bool
  | .lst _ => false
  | .dic _ ds => nolL ds
  | .tup ds => nolL ds
  | .ptp ds => nolL ds
  | .obj _ ds => nolL ds
  | _ => true
def nolL : List D → Bool
  | [] => true
  | d :: ds => nol d && nolL ds
end
/-! ### tracked objects -/
/-- dice; a dict of plain values; an instance with slots, its dict at dx; such a dict; a table of code objects of the name q -/
inductive O where
  | dice | dct (kds : List (Key × D)) | ins (C dx : Addr) (fs : List (Option D)) | aux (x : Addr) | tab (q : Str)
abbrev G := Addr → Option O
/-- the slots of an instance -/
inductive RF (K : PySem.W.Frag) (F : Hp) : List (Option V) → List (Option D) → Prop
  | nil : RF K F [] []
  | no {vs : List (Option V)} {fs : List (Option D)} : RF K F vs fs → RF K F (none :: vs) (none :: fs)
  | yes {v : V} {d : D} {vs : List (Option V)} {fs : List (Option D)} : Rep K F v d → nol d = true → RF K F vs fs → RF K F (some v :: vs) (some d :: fs)
theorem RF.mono {K : PySem.W.Frag} {F F' : Hp} {vs : List (Option V)} {fs : List (Option D)} (e : ∀ v d, nol d = true → Rep K F v d → Rep K F' v d) (h : RF K F vs fs) : RF K F' vs fs := by
  induction h with
  | nil => exact .nil
  | no _ ih => exact .no ih
  | yes r n _ ih => exact .yes (e _ _ n r) n ih
def RepO (g : G) (K : PySem.W.Frag) (F H : Hp) (a : Addr) : O → Prop
  | .dice => ∃ x y z : Int, H a = some (.lst [.int x, .int y, .int z])
  | .dct kds => ∃ kvs : List (Key × V), H a = some (.dK kvs) ∧ kvs.map (·.1) = kds.map (·.1) ∧ (kds.map (·.1)).Nodup ∧ ∀ K F, RepL K F (kvs.map (·.2)) (kds.map (·.2))
  | .ins C dx fs => g dx = some (.aux a) ∧ ∃ vs, SlX.Slt H a C dx vs ∧ RF K F vs fs
  | .aux _ => (∃ x, H a = some (.own x)) ∨ H a = some (.xd [])
  | .tab q => ∃ ps : Array Value, H a = some (.tbl ps) ∧ TriplesOk ps.toList ∧ ∀ (pos : Pos) (cv : Value), codeAmong pos ps.toList = some cv → ∃ c, cv = .ref c ∧ F c = some (LamX.CodeO c q)
theorem RepO.mono {g g' : G} {K : PySem.W.Frag} {F F' H H' : Hp} {a : Addr} {o : O} (ff : ∀ v d, nol d = true → Rep K F v d → Rep K F' v d) (k : ∀ b w, g b = some w → ∀ u, H b = some u → H' b = some u) (kg : ∀ b c, g b = some (.aux c) → g' b = some (.aux c)) (kc : ∀ c q, F c = some (LamX.CodeO c q) → F' c = some (LamX.CodeO c q)) (ga : g a = some o)
    (h : RepO g K F H a o) : RepO g' K F' H' a o := by
  cases o with
  | dice =>
    obtain ⟨x, y, z, h1⟩ := h
    exact ⟨x, y, z, k _ _ ga _ h1⟩
  | dct kds =>
    obtain ⟨kvs, h1, h2⟩ := h
    exact ⟨kvs, k _ _ ga _ h1, h2⟩
  | ins C dx fs =>
    obtain ⟨h1, vs, s1, h3⟩ := h
    exact ⟨kg _ _ h1, vs, s1.imp (fun z => ⟨k _ _ ga _ z.1, z.2⟩) fun z => ⟨k _ _ ga _ z.1, k _ _ h1 _ z.2⟩, h3.mono ff⟩
  | aux c =>
    exact h.imp (fun ⟨x, z⟩ => ⟨x, k _ _ ga _ z⟩) fun z => k _ _ ga _ z
  | tab q =>
    obtain ⟨ps, h1, h2, h3⟩ := h
    refine ⟨ps, k _ _ ga _ h1, h2, fun pos cv hc => ?_⟩
    obtain ⟨c, e1, e2⟩ := h3 pos cv hc
    exact ⟨c, e1, kc _ _ e2⟩
/-- the heap alone is another one -/
theorem RepO.heap {g : G} {K : PySem.W.Frag} {F H H' : Hp} {a : Addr} {o : O} (k : ∀ b w, g b = some w → ∀ u, H b = some u → H' b = some u) (ga : g a = some o) (h : RepO g K F H a o) : RepO g K F H' a o :=
  h.mono (fun _ _ _ r => r) k (fun _ _ e => e) (fun _ _ e => e) ga
theorem RepO.there {g : G} {K : PySem.W.Frag} {F H : Hp} {a : Addr} {o : O} (h : RepO g K F H a o) : ∃ u, H a = some u := by
  cases o with
  | dice => obtain ⟨x, y, z, h1⟩ := h; exact ⟨_, h1⟩
  | dct kds => obtain ⟨kvs, h1, _⟩ := h; exact ⟨_, h1⟩
  | ins C dx fs =>
    obtain ⟨_, vs, s3, _⟩ := h
    rcases s3 with ⟨z, _⟩ | ⟨z, _⟩ <;> exact ⟨_, z⟩
  | aux c => rcases h with ⟨x, h1⟩ | h1 <;> exact ⟨_, h1⟩
  | tab q => obtain ⟨ps, h1, _⟩ := h; exact ⟨_, h1⟩

/-- what a name's slot holds: nothing known, a value, an own list that nobody else sees -/
inductive Sl where
  | no | val (d : D) | acc (ds : List D)
abbrev Rho := List Sl

structure Bs where
  K : PySem.W.Frag
  H0 : Hp
  g0 : G
  F0 : Hp

def SlR (B : Bs) (F : Hp) (g : G) (H : Hp) (o : Option (Option V)) : Sl → Prop
  | .no => True
  | .val d => ∃ v, o = some (some v) ∧ Rep B.K F v d
  | .acc ds => ∃ a xs, o = some (some (.ref a)) ∧ H a = some (.lst xs) ∧ RepL B.K F xs ds ∧ F a = none ∧ g a = none ∧ B.H0 a = none

structure Rl (B : Bs) (F : Hp) (ρ : Rho) (g : G) (σ : L2.St) (H : Hp) : Prop where
  fh : Same F H
  f0 : Same B.F0 F
  fn : ∀ a o, F a = some o → (∃ o', B.F0 a = some o') ∨ B.H0 a = none
  dm : ∀ a o, B.H0 a = some o → ∃ o', H a = some o'
  fr : ∀ a o, B.H0 a = some o → B.g0 a = none → H a = some o
  gg : ∀ a o, g a = some o → RepO g B.K F H a o ∧ F a = none ∧ ((∃ o', B.g0 a = some o') ∨ B.H0 a = none)
  sl : ∀ (i : Nat) (s : Sl), ρ[i]? = some s → SlR B F g H σ[i]? s
  dj : ∀ (i j : Nat) (a : Addr) (ds es : List D), ρ[i]? = some (.acc ds) → ρ[j]? = some (.acc es) → σ[i]? = some (some (.ref a)) → σ[j]? = some (some (.ref a)) → i = j
  ln : ρ.length = σ.length

/-- only new things were laid -/
structure Gro (F H F' H' : Hp) : Prop where
  ff : Same F F'
  hh : Same H H'
  fh : Same F' H'
  fn : ∀ a o, F' a = some o → F a = some o ∨ H a = none
theorem Gro.refl {F H : Hp} (h : Same F H) : Gro F H F H := ⟨Same.refl F, Same.refl H, h, fun _ _ e => .inl e⟩
theorem Gro.trans {F H F1 H1 F2 H2 : Hp} (a : Gro F H F1 H1) (b : Gro F1 H1 F2 H2) : Gro F H F2 H2 :=
  ⟨a.ff.trans b.ff, a.hh.trans b.hh, b.fh, fun c o e => by
    rcases b.fn c o e with q | q
    · exact a.fn c o q
    · exact .inr (a.hh.free q)⟩
/-- a new object, frozen -/
theorem Gro.lay {F H : Hp} {p : Addr} {o : HO} (h : Same F H) (n : H p = none) : Gro F H (upd F p o) (upd H p o) := by
  have nf : F p = none := h.free n
  refine ⟨fun b u e => ?_, fun b u e => ?_, fun b u e => ?_, fun b u e => ?_⟩
  · rw [upd_ne (ne_of_none e nf)]; exact e
  · rw [upd_ne (ne_of_none e n)]; exact e
  · by_cases hb : b = p
    · subst hb; rw [upd_same] at e ⊢; exact e
    · rw [upd_ne hb] at e ⊢; exact h _ _ e
  · by_cases hb : b = p
    · subst hb; exact .inr n
    · rw [upd_ne hb] at e; exact .inl e
/-- a new object, not told -/
theorem Gro.lay0 {F H : Hp} {p : Addr} {o : HO} (h : Same F H) (n : H p = none) : Gro F H F (upd H p o) :=
  ⟨Same.refl F, fun b u e => by rw [upd_ne (ne_of_none e n)]; exact e, fun b u e => by rw [upd_ne (ne_of_none (h _ _ e) n)]; exact h _ _ e, fun _ _ e => .inl e⟩
theorem SlR.mono {B : Bs} {F F' : Hp} {g : G} {H H' : Hp} {o : Option (Option V)} {s : Sl} (G1 : Gro F H F' H') (h : SlR B F g H o s) : SlR B F' g H' o s := by
  cases s with
  | no => trivial
  | val d => obtain ⟨v, e, r⟩ := h; exact ⟨v, e, r.mono G1.ff⟩
  | acc ds =>
    obtain ⟨a, xs, e, h1, h2, h3, h4, h5⟩ := h
    refine ⟨a, xs, e, G1.hh _ _ h1, h2.mono G1.ff, ?_, h4, h5⟩
    cases q : F' a with
    | none => rfl
    | some o =>
      rcases G1.fn a o q with z | z
      · rw [h3] at z; cases z
      · rw [h1] at z; cases z
theorem Rl.gro {B : Bs} {F F' : Hp} {ρ : Rho} {g : G} {σ : L2.St} {H H' : Hp} (R : Rl B F ρ g σ H) (G1 : Gro F H F' H') : Rl B F' ρ g σ H' where
  fh := G1.fh
  f0 := R.f0.trans G1.ff
  fn := fun a o e => by
    rcases G1.fn a o e with z | z
    · exact R.fn a o z
    · cases q : B.H0 a with
      | none => exact .inr rfl
      | some u =>
        obtain ⟨o', e'⟩ := R.dm a u q
        rw [z] at e'; cases e'
  dm := fun a o e => let ⟨o', e'⟩ := R.dm a o e; ⟨o', G1.hh _ _ e'⟩
  fr := fun a o e n => G1.hh _ _ (R.fr a o e n)
  gg := fun a o e => by
    obtain ⟨h1, h2, h3⟩ := R.gg a o e
    refine ⟨h1.mono (fun _ _ _ r => r.mono G1.ff) (fun b _ _ u q => G1.hh _ _ q) (fun _ _ e => e) (fun _ _ z => G1.ff _ _ z) e, ?_, h3⟩
    cases q : F' a with
    | none => rfl
    | some u =>
      rcases G1.fn a u q with z | z
      · rw [h2] at z; cases z
      · obtain ⟨u, hu⟩ := h1.there
        rw [z] at hu; cases hu
  sl := fun i s e => (R.sl i s e).mono G1
  dj := R.dj
  ln := R.ln

/-! ### exceptions -/
structure Exn where
  cls : Value
  fs : List (Str × D)
inductive RepF (K : PySem.W.Frag) (F : Hp) : List (Str × V) → List (Str × D) → Prop
  | nil : RepF K F [] []
  | cons {n : Str} {v : V} {d : D} {vs : List (Str × V)} {ds : List (Str × D)} : Rep K F v d → RepF K F vs ds → RepF K F ((n, v) :: vs) ((n, d) :: ds)
def XR (K : PySem.W.Frag) (F H : Hp) (cls : Value) (d : Option Addr) (x : Exn) : Prop :=
  cls = x.cls ∧ match d with
    | none => x.fs = []
    | some a => ∃ fs, H a = some (.xd fs) ∧ RepF K F fs x.fs
abbrev Wi := Exn → Rho → G → Prop
def WXof (B : Bs) (W : Wi) : WX := fun cls d σ H => ∃ F ρ g x, Rl B F ρ g σ H ∧ XR B.K F H cls d x ∧ W x ρ g
def Lk (X : Cx) (B : Bs) (W : Wi) : Prop := Takes X (WXof B W)

/-! ### expressions -/
/-- an expression's worth: names' slots are read alone, tracked objects may change -/
abbrev EM (α : Type) := Rho → G → (α → G → Prop) → (Exn → G → Prop) → Prop
/-- what an expression leaves as it is -/
structure Ste (g : G) (H F : Hp) (g' : G) (H' F' : Hp) : Prop where
  ff : Same F F'
  kp : ∀ a o, H a = some o → g a = none → H' a = some o ∧ g' a = none
  dm : ∀ a o, H a = some o → ∃ o', H' a = some o'
  fn : ∀ a o, F' a = some o → F a = some o ∨ H a = none
theorem Ste.refl {g : G} {H F : Hp} : Ste g H F g H F := ⟨fun _ _ e => e, fun _ _ h n => ⟨h, n⟩, fun _ o h => ⟨o, h⟩, fun _ _ e => .inl e⟩
theorem Ste.none {g : G} {H F : Hp} {g' : G} {H' F' : Hp} (k : Ste g H F g' H' F') {a : Addr} (h : H' a = none) : H a = none := by
  cases z : H a with
  | none => rfl
  | some u => obtain ⟨o, z'⟩ := k.dm a u z; rw [h] at z'; cases z'
theorem Ste.trans {g g1 g2 : G} {H F H1 F1 H2 F2 : Hp} (a : Ste g H F g1 H1 F1) (b : Ste g1 H1 F1 g2 H2 F2) : Ste g H F g2 H2 F2 :=
  ⟨fun c o e => b.ff c o (a.ff c o e), fun c o e q => b.kp c o (a.kp c o e q).1 (a.kp c o e q).2, fun c o e => let ⟨o', e'⟩ := a.dm c o e; b.dm c o' e', fun c o e => by
    rcases b.fn c o e with z | z
    · exact a.fn c o z
    · exact .inr (a.none z)⟩
theorem Gro.ste {g : G} {H F H' F' : Hp} (G1 : Gro F H F' H') : Ste g H F g H' F' := ⟨G1.ff, fun a o e n => ⟨G1.hh a o e, n⟩, fun a o e => ⟨o, G1.hh a o e⟩, G1.fn⟩
def tE (B : Bs) (W : Wi) (m : EM D) : TE := fun σ H Q => ∃ F ρ g QD, Rl B F ρ g σ H ∧ m ρ g QD (fun x g' => W x ρ g') ∧
  ∀ v H' F' g' d, Ste g H F g' H' F' → Rl B F' ρ g' σ H' → Rep B.K F' v d → QD d g' → Q v H'
def tT (B : Bs) (W : Wi) (m : EM Bool) : TT := fun σ H Q => ∃ F ρ g QD, Rl B F ρ g σ H ∧ m ρ g QD (fun x g' => W x ρ g') ∧
  ∀ b H' F' g', Ste g H F g' H' F' → Rl B F' ρ g' σ H' → QD b g' → Q b H'
def tEs (B : Bs) (W : Wi) (m : EM (List D)) : TA := fun σ H Q => ∃ F ρ g QD, Rl B F ρ g σ H ∧ m ρ g QD (fun x g' => W x ρ g') ∧
  ∀ vs H' F' g' ds, Ste g H F g' H' F' → Rl B F' ρ g' σ H' → RepL B.K F' vs ds → QD ds g' → Q vs H'
/-- a new list that nobody else sees -/
def tN (B : Bs) (W : Wi) (m : EM (List D)) : TE := fun σ H Q => ∃ F ρ g QD, Rl B F ρ g σ H ∧ m ρ g QD (fun x g' => W x ρ g') ∧
  ∀ a xs H' F' g' ds, Ste g H F g' H' F' → Rl B F' ρ g' σ H' → H a = none → H' a = some (.lst xs) → F' a = none → g' a = none → B.H0 a = none →
    (∀ (i : Nat) (es : List D), ρ[i]? = some (.acc es) → σ[i]? ≠ some (some (.ref a))) → RepL B.K F' xs ds → QD ds g' → Q (.ref a) H'
def EV (X : Cx) (e : Expr) (m : EM D) : Prop := ∀ B W, B.K = X.K → Lk X B W → PE X e (tE B W m)
def ET (X : Cx) (e : Expr) (m : EM Bool) : Prop := ∀ B W, B.K = X.K → Lk X B W → PT X e (tT B W m)
def EVs (X : Cx) (es : List Expr) (m : EM (List D)) : Prop := ∀ B W, B.K = X.K → Lk X B W → PA X es (tEs B W m)
def EN (X : Cx) (e : Expr) (m : EM (List D)) : Prop := ∀ B W, B.K = X.K → Lk X B W → PE X e (tN B W m)

theorem pe_mono {X : Cx} {e : Expr} {t t' : TE} (h : PE X e t) (w : ∀ σ H Q, t' σ H Q → t σ H Q) : PE X e t' := ⟨fun pins s σ H Q I q => h.run pins s σ H Q I (w _ _ _ q)⟩
theorem pt_mono {X : Cx} {e : Expr} {t t' : TT} (h : PT X e t) (w : ∀ σ H Q, t' σ H Q → t σ H Q) : PT X e t' := ⟨fun pins s σ H Q I q => h.run pins s σ H Q I (w _ _ _ q)⟩
theorem pw_mono {X : Cx} {e : Expr} {t t' : TT} (h : PW X e t) (w : ∀ σ H Q, t' σ H Q → t σ H Q) : PW X e t' := ⟨fun wh pins s σ H Q I q => h.run wh pins s σ H Q I (w _ _ _ q)⟩
theorem pa_mono {X : Cx} {e : List Expr} {t t' : TA} (h : PA X e t) (w : ∀ σ H Q, t' σ H Q → t σ H Q) : PA X e t' := ⟨fun pos pins s σ H Q I q => h.run pos pins s σ H Q I (w _ _ _ q)⟩
theorem ps_mono {X : Cx} {e : Stmt} {t t' : TS} (h : PS X e t) (w : ∀ D σ H, t' D σ H → t D σ H) : PS X e t' := ⟨fun pins s σ H D I q => h.run pins s σ H D I (w _ _ _ q)⟩
theorem pss_mono {X : Cx} {e : List Stmt} {t t' : TS} (h : PSs X e t) (w : ∀ D σ H, t' D σ H → t D σ H) : PSs X e t' := ⟨fun pins s σ H D I q => h.run pins s σ H D I (w _ _ _ q)⟩

/-! ### what a def is worth -/
abbrev FSp := List D → G → (D → G → Prop) → (Exn → G → Prop) → Prop
def lift (K : PySem.W.Frag) (sp : FSp) : Sp := fun vs H Q E => ∃ (F : Hp) (g : G) (ds : List D) (QD : D → G → Prop) (ED : Exn → G → Prop), RepL K F vs ds ∧ Rl ⟨K, H, g, F⟩ F [] g [] H ∧ sp ds g QD ED ∧
  (∀ v H' F' g' d, Rl ⟨K, H, g, F⟩ F' [] g' [] H' → Rep K F' v d → QD d g' → Q v H') ∧
  (∀ cls dx H' F' g' x, Rl ⟨K, H, g, F⟩ F' [] g' [] H' → XR K F' H' cls dx x → ED x g' → E cls dx H')
section
variable {B : Bs} {F F' : Hp} {ρ : Rho} {g g' : G} {σ : L2.St} {H H' : Hp}
/-- at a call: what the callee begins with -/
theorem Rl.enter (R : Rl B F ρ g σ H) : Rl ⟨B.K, H, g, F⟩ F [] g [] H where
  fh := R.fh
  f0 := Same.refl F
  fn := fun a o e => .inl ⟨o, e⟩
  dm := fun a o e => ⟨o, e⟩
  fr := fun a o e _ => e
  gg := fun a o e => ⟨(R.gg a o e).1, (R.gg a o e).2.1, .inl ⟨o, e⟩⟩
  sl := fun i s e => by simp at e
  dj := fun i j a ds es e => by simp at e
  ln := rfl
theorem Rl.ste (C : Rl ⟨B.K, H, g, F⟩ F' [] g' [] H') : Ste g H F g' H' F' := by
  refine ⟨C.f0, fun a o e n => ⟨C.fr a o e n, ?_⟩, C.dm, fun a o e => ?_⟩
  · cases q : g' a with
    | none => rfl
    | some u =>
      rcases (C.gg a u q).2.2 with ⟨o', z⟩ | z
      · have z : g a = some o' := z
        rw [n] at z; cases z
      · have z : H a = none := z
        rw [e] at z; cases z
  · rcases C.fn a o e with ⟨o', z⟩ | z
    · have z : F a = some o' := z
      have z2 := C.f0 a o' z
      rw [e] at z2; cases z2
      exact .inl z
    · exact .inr z
/-- behind a call -/
theorem Rl.after (R : Rl B F ρ g σ H) (C : Rl ⟨B.K, H, g, F⟩ F' [] g' [] H') : Rl B F' ρ g' σ H' where
  fh := C.fh
  f0 := R.f0.trans C.f0
  fn := fun a o e => by
    rcases C.fn a o e with ⟨o', z⟩ | z
    · exact R.fn a o' z
    · cases q : B.H0 a with
      | none => exact .inr rfl
      | some u =>
        obtain ⟨o', e'⟩ := R.dm a u q
        have z : H a = none := z
        rw [z] at e'; cases e'
  dm := fun a o e => let ⟨o', e'⟩ := R.dm a o e; C.dm a o' e'
  fr := fun a o e n => by
    refine C.fr a o (R.fr a o e n) ?_
    show g a = none
    cases q : g a with
    | none => rfl
    | some u =>
      rcases (R.gg a u q).2.2 with ⟨o', z⟩ | z
      · rw [n] at z; cases z
      · rw [e] at z; cases z
  gg := fun a o e => by
    obtain ⟨h1, h2, h3⟩ := C.gg a o e
    refine ⟨h1, h2, ?_⟩
    rcases h3 with ⟨o', z⟩ | z
    · exact (R.gg a o' z).2.2
    · cases q : B.H0 a with
      | none => exact .inr rfl
      | some u =>
        obtain ⟨o', e'⟩ := R.dm a u q
        have z : H a = none := z
        rw [z] at e'; cases e'
  sl := fun i s e => by
    have h := R.sl i s e
    cases s with
    | no => trivial
    | val d => obtain ⟨v, e1, r⟩ := h; exact ⟨v, e1, r.mono C.f0⟩
    | acc ds =>
      obtain ⟨a, xs, e1, h1, h2, h3, h4, h5⟩ := h
      refine ⟨a, xs, e1, C.fr _ _ h1 h4, h2.mono C.f0, ?_, (Rl.ste C |>.kp _ _ h1 h4).2, h5⟩
      cases q : F' a with
      | none => rfl
      | some o =>
        rcases C.fn a o q with ⟨o', z⟩ | z
        · have z : F a = some o' := z
          rw [h3] at z; cases z
        · have z : H a = none := z
          rw [h1] at z; cases z
  dj := R.dj
  ln := R.ln
/-- what is not there is not tracked and no own list -/
theorem Rl.fresh_g (R : Rl B F ρ g σ H) {p : Addr} (hp : H p = none) : g p = none := by
  cases q : g p with
  | none => rfl
  | some u =>
    obtain ⟨o, z⟩ := (R.gg p u q).1.there
    rw [hp] at z; cases z
theorem Rl.fresh_0 (R : Rl B F ρ g σ H) {p : Addr} (hp : H p = none) : B.H0 p = none := by
  cases z : B.H0 p with
  | none => rfl
  | some u =>
    obtain ⟨o', z'⟩ := R.dm p u z
    rw [hp] at z'; cases z'
theorem Rl.fresh_s (R : Rl B F ρ g σ H) {p : Addr} (hp : H p = none) : ∀ (i : Nat) (es : List D), ρ[i]? = some (.acc es) → σ[i]? ≠ some (some (.ref p)) := fun i es e z => by
  obtain ⟨a, xs, e1, h1, _⟩ := R.sl i _ e
  rw [z] at e1
  cases e1
  rw [hp] at h1; cases h1
/-- an object that is ours alone is frozen -/
theorem Rl.freeze (R : Rl B F ρ g σ H) {p : Addr} {o : HO} (hp : H p = some o) (hf : F p = none) (hg : g p = none) (h0 : B.H0 p = none) (hs : ∀ (i : Nat) (es : List D), ρ[i]? = some (.acc es) → σ[i]? ≠ some (some (.ref p))) :
    Rl B (upd F p o) ρ g σ H := by
  have ef : Same F (upd F p o) := fun b u e => by rw [upd_ne (ne_of_none e hf)]; exact e
  refine ⟨fun a u e => ?_, R.f0.trans ef, fun a u e => ?_, R.dm, R.fr, fun a u e => ?_, fun i s e => ?_, R.dj, R.ln⟩
  · by_cases h : a = p
    · subst h; rw [upd_same] at e; cases e; exact hp
    · rw [upd_ne h] at e; exact R.fh a u e
  · by_cases h : a = p
    · subst h; exact .inr h0
    · rw [upd_ne h] at e; exact R.fn a u e
  · obtain ⟨h1, h2, h3⟩ := R.gg a u e
    refine ⟨h1.mono (fun _ _ _ r => r.mono ef) (fun _ _ _ _ q => q) (fun _ _ q => q) (fun _ _ z => ef _ _ z) e, ?_, h3⟩
    rw [upd_ne (fun z => by subst z; rw [hg] at e; cases e)]
    exact h2
  · have h := R.sl i s e
    cases s with
    | no => trivial
    | val d => obtain ⟨v, e1, r⟩ := h; exact ⟨v, e1, r.mono ef⟩
    | acc ds =>
      obtain ⟨a, xs, e1, h1, h2, h3, h4, h5⟩ := h
      refine ⟨a, xs, e1, h1, h2.mono ef, ?_, h4, h5⟩
      rw [upd_ne (fun z => by subst z; exact hs i ds e e1)]
      exact h3

/-! ### own lists, seen for a while -/
@[simp] def thaw1 : Sl → Sl
  | .acc ds => .val (.lst ds)
  | s => s
@[simp] def thaw (ρ : Rho) : Rho := ρ.map thaw1
def IsAcc (ρ : Rho) (σ : L2.St) (a : Addr) : Prop := ∃ (i : Nat) (ds : List D), ρ[i]? = some (.acc ds) ∧ σ[i]? = some (some (.ref a))
open Classical in
noncomputable def wide (ρ : Rho) (σ : L2.St) (F H : Hp) : Hp := fun a => if IsAcc ρ σ a then H a else F a
open Classical in
noncomputable def narrow (ρ : Rho) (σ : L2.St) (F : Hp) : Hp := fun a => if IsAcc ρ σ a then none else F a
theorem Rl.acc_at (R : Rl B F ρ g σ H) {a : Addr} (h : IsAcc ρ σ a) : ∃ xs, H a = some (.lst xs) ∧ F a = none ∧ g a = none ∧ B.H0 a = none := by
  obtain ⟨i, ds, h1, h2⟩ := h
  obtain ⟨b, xs, e, q1, q2, q3, q4, q5⟩ := R.sl i _ h1
  rw [h2] at e
  cases e
  exact ⟨xs, q1, q3, q4, q5⟩
theorem Rl.wide_ff (R : Rl B F ρ g σ H) : Same F (wide ρ σ F H) := fun a o e => by
  unfold wide
  split
  · rename_i h
    obtain ⟨xs, _, q, _⟩ := R.acc_at h
    rw [q] at e; cases e
  · exact e
theorem Rl.thaw (R : Rl B F ρ g σ H) : Rl B (wide ρ σ F H) (thaw ρ) g σ H where
  fh := fun a o e => by
    unfold wide at e
    split at e
    · exact e
    · exact R.fh a o e
  f0 := R.f0.trans R.wide_ff
  fn := fun a o e => by
    unfold wide at e
    split at e
    · rename_i h
      obtain ⟨xs, _, _, _, q⟩ := R.acc_at h
      exact .inr q
    · exact R.fn a o e
  dm := R.dm
  fr := R.fr
  gg := fun a o e => by
    obtain ⟨h1, h2, h3⟩ := R.gg a o e
    refine ⟨h1.mono (fun _ _ _ r => r.mono R.wide_ff) (fun _ _ _ _ q => q) (fun _ _ q => q) (fun _ _ z => R.wide_ff _ _ z) e, ?_, h3⟩
    unfold wide
    split
    · rename_i h
      obtain ⟨xs, _, _, q, _⟩ := R.acc_at h
      rw [q] at e; cases e
    · exact h2
  sl := fun i s e => by
    unfold DL.thaw at e
    rw [List.getElem?_map] at e
    cases q : ρ[i]? with
    | none => rw [q] at e; cases e
    | some t =>
      rw [q] at e
      have e' : thaw1 t = s := Option.some.inj e
      have h := R.sl i t q
      subst e'
      cases t with
      | no => trivial
      | val d => obtain ⟨v, e1, r⟩ := h; exact ⟨v, e1, r.mono R.wide_ff⟩
      | acc ds =>
        obtain ⟨a, xs, e1, h1, h2, h3, h4, h5⟩ := h
        refine ⟨.ref a, e1, .lst (.inl (.inl ?_)) (h2.mono R.wide_ff)⟩
        unfold wide
        rw [if_pos ⟨i, ds, q, e1⟩]
        exact h1
  dj := fun i j a ds es e => by
    unfold DL.thaw at e
    rw [List.getElem?_map] at e
    cases q : ρ[i]? with
    | none => rw [q] at e; cases e
    | some t =>
      rw [q] at e
      have e' : thaw1 t = .acc ds := Option.some.inj e
      cases t <;> cases e'
  ln := by unfold DL.thaw; rw [List.length_map]; exact R.ln
theorem Rl.narrow_code (R : Rl B F ρ g σ H) (e : Same (wide ρ σ F H) F') {c : Addr} {q : Str} (z : F' c = some (LamX.CodeO c q)) : narrow ρ σ F' c = some (LamX.CodeO c q) := by
  unfold narrow
  split
  · rename_i ha
    obtain ⟨ys, y, _⟩ := R.acc_at ha
    have z' : F' c = some (.lst ys) := e c _ (by unfold wide; rw [if_pos ha]; exact y)
    rw [z] at z'
    unfold LamX.CodeO at z'
    cases z'
  · exact z
mutual
theorem Rl.nol_rep (R : Rl B F ρ g σ H) (e : Same (wide ρ σ F H) F') : ∀ {d : D} {v : V}, nol d = true → Rep B.K F' v d → Rep B.K (narrow ρ σ F') v d
  | .non, _, _, h => by cases h; exact .non
  | .bl b, _, _, h => by cases h; exact .bl b
  | .int b, _, _, h => by cases h; exact .int b
  | .str b, _, _, h => by cases h; exact .str b
  | .ref b, _, _, h => by cases h; exact .ref b
  | .tup ds, _, n, h => by
    cases h with
    | tup hs hr =>
      refine .tup ?_ (Rl.nol_repL R e (by simpa [nol] using n) hr)
      rename_i a xs
      have na : ∀ o, F' a = some o → (∀ ys, o ≠ .lst ys) → narrow ρ σ F' a = some o := fun o z ny => by
        unfold narrow
        split
        · rename_i ha
          obtain ⟨ys, q, _⟩ := R.acc_at ha
          have z' : F' a = some (.lst ys) := e a _ (by unfold wide; rw [if_pos ha]; exact q)
          rw [z] at z'
          exact absurd (Option.some.inj z') (ny ys)
        · exact z
      rcases hs with ⟨o, q, z⟩ | q
      · exact .inl ⟨o, na _ q (fun ys z => by cases z), z⟩
      · exact .inr q
  | .ptp ds, _, n, h => by
    cases h with
    | ptp hs hr =>
      refine .ptp ?_ (Rl.nol_repL R e (by simpa [nol] using n) hr)
      rename_i a xs
      have na : ∀ o, F' a = some o → (∀ ys, o ≠ .lst ys) → narrow ρ σ F' a = some o := fun o z ny => by
        unfold narrow
        split
        · rename_i ha
          obtain ⟨ys, q, _⟩ := R.acc_at ha
          have z' : F' a = some (.lst ys) := e a _ (by unfold wide; rw [if_pos ha]; exact q)
          rw [z] at z'
          exact absurd (Option.some.inj z') (ny ys)
        · exact z
      rcases hs with (q | ⟨o, q⟩) | q
      · exact .inl (.inl (na _ q fun ys z => by cases z))
      · exact .inl (.inr ⟨o, na _ q fun ys z => by cases z⟩)
      · exact .inr q
  | .lst ds, _, n, h => by simp [nol] at n
  | .dic ks ds, _, n, h => by
    cases h with
    | @dic a o kvs _ _ h1 hk hn hr =>
      have na : ∀ b o, F' b = some o → (∀ ys, o ≠ .lst ys) → narrow ρ σ F' b = some o := fun b o z ny => by
        unfold narrow
        split
        · rename_i ha
          obtain ⟨ys, q, _⟩ := R.acc_at ha
          have z' : F' b = some (.lst ys) := e b _ (by unfold wide; rw [if_pos ha]; exact q)
          rw [z] at z'
          exact absurd (Option.some.inj z') (ny ys)
        · exact z
      exact .dic (na a _ h1 fun ys z => by cases z) hk hn (Rl.nol_repL R e (by simpa [nol] using n) hr)
  | .obj C ds, _, n, h => by
    cases h with
    | @obj a _ dx xs _ h1 h2 hr =>
      have na : ∀ b o, F' b = some o → (∀ ys, o ≠ .lst ys) → narrow ρ σ F' b = some o := fun b o z ny => by
        unfold narrow
        split
        · rename_i ha
          obtain ⟨ys, q, _⟩ := R.acc_at ha
          have z' : F' b = some (.lst ys) := e b _ (by unfold wide; rw [if_pos ha]; exact q)
          rw [z] at z'
          exact absurd (Option.some.inj z') (ny ys)
        · exact z
      exact .obj (na a _ h1 fun ys z => by cases z) (na dx _ h2 fun ys z => by cases z) (Rl.nol_repL R e (by simpa [nol] using n) hr)
theorem Rl.nol_repL (R : Rl B F ρ g σ H) (e : Same (wide ρ σ F H) F') : ∀ {ds : List D} {vs : List V}, nolL ds = true → RepL B.K F' vs ds → RepL B.K (narrow ρ σ F') vs ds
  | [], _, _, h => by cases h; exact .nil
  | d :: ds, _, n, h => by
    cases h with
    | cons h1 h2 =>
      have n' : nol d = true ∧ nolL ds = true := by simpa [nolL] using n
      exact .cons (Rl.nol_rep R e n'.1 h1) (Rl.nol_repL R e n'.2 h2)
end
theorem Rl.unthaw (R : Rl B F ρ g σ H) (R' : Rl B F' (DL.thaw ρ) g' σ H') (k : Ste g H (wide ρ σ F H) g' H' F') : Ste g H F g' H' (narrow ρ σ F') ∧ Rl B (narrow ρ σ F') ρ g' σ H' := by
  have e := k.ff
  have ff : Same F (narrow ρ σ F') := fun a o z => by
    unfold narrow
    split
    · rename_i h
      obtain ⟨xs, _, q, _⟩ := R.acc_at h
      rw [q] at z; cases z
    · exact e a o (R.wide_ff a o z)
  have nn : ∀ a o, narrow ρ σ F' a = some o → F' a = some o := fun a o z => by
    unfold narrow at z
    split at z
    · cases z
    · exact z
  refine ⟨⟨ff, k.kp, k.dm, fun a o z => ?_⟩, fun a o z => R'.fh a o (nn a o z), R.f0.trans ff, fun a o z => R'.fn a o (nn a o z), R'.dm, R'.fr, fun a o z => ?_, fun i s z => ?_, R.dj, R.ln⟩
  · rcases k.fn a o (nn a o z) with q | q
    · unfold wide at q
      split at q
      · rename_i h
        unfold narrow at z
        rw [if_pos h] at z; cases z
      · exact .inl q
    · exact .inr q
  · obtain ⟨h1, h2, h3⟩ := R'.gg a o z
    refine ⟨h1.mono (fun _ _ n r => R.nol_rep e n r) (fun _ _ _ _ q => q) (fun _ _ q => q) (fun c q z => R.narrow_code e z) z, ?_, h3⟩
    unfold narrow
    split
    · rfl
    · exact h2
  · have h := R.sl i s z
    cases s with
    | no => trivial
    | val d => obtain ⟨v, e1, r⟩ := h; exact ⟨v, e1, r.mono ff⟩
    | acc ds =>
      obtain ⟨a, xs, e1, h1, h2, h3, h4, h5⟩ := h
      refine ⟨a, xs, e1, R'.fh _ _ (e _ _ ?_), h2.mono ff, ?_, (k.kp _ _ h1 h4).2, h5⟩
      · unfold wide
        rw [if_pos ⟨i, ds, z, e1⟩]
        exact h1
      · unfold narrow
        rw [if_pos ⟨i, ds, z, e1⟩]
end
end DL

set_option Elab.async false
set_option linter.all false
set_option maxRecDepth 100000
/-! DL2: expressions. -/
namespace DL
open PySem PySem.Spec PyProof.Rows L2

/-! ### what an expression is worth -/
@[simp] def eVar (i : Nat) : EM D := fun ρ g Q _ => match ρ[i]? with | some (Sl.val d) => Q d g | _ => False
@[simp] def eC (d : D) : EM D := fun _ g Q _ => Q d g
@[simp] def e1 (f : D → Option D) (m : EM D) : EM D := fun ρ g Q E => m ρ g (fun x g1 => match f x with | some z => Q z g1 | none => False) E
@[simp] def e2 (f : D → D → Option D) (ma mb : EM D) : EM D := fun ρ g Q E => ma ρ g (fun x g1 => mb ρ g1 (fun y g2 => match f x y with | some z => Q z g2 | none => False) E) E
@[simp] def eL (f : List D → Option D) (m : EM (List D)) : EM D := fun ρ g Q E => m ρ g (fun xs g1 => match f xs with | some z => Q z g1 | none => False) E
@[simp] def esNil : EM (List D) := fun _ g Q _ => Q [] g
@[simp] def esCons (m : EM D) (ms : EM (List D)) : EM (List D) := fun ρ g Q E => m ρ g (fun x g1 => ms ρ g1 (fun xs g2 => Q (x :: xs) g2) E) E
@[simp] def eIf (t : EM Bool) (a b : EM D) : EM D := fun ρ g Q E => t ρ g (fun c g1 => if c = true then a ρ g1 Q E else b ρ g1 Q E) E
def eAnd (a b : EM D) : EM D := fun ρ g Q E => a ρ g (fun x g1 => match x with | .bl true => b ρ g1 Q E | .bl false => Q (.bl false) g1 | _ => False) E
def eOr (a b : EM D) : EM D := fun ρ g Q E => a ρ g (fun x g1 => match x with | .bl true => Q (.bl true) g1 | .bl false => b ρ g1 Q E | _ => False) E
@[simp] def eNot (a : EM D) : EM D := fun ρ g Q E => a ρ g (fun x g1 => match x with | .bl c => Q (.bl (!c)) g1 | _ => False) E
@[simp] def tB1 (a : EM D) : EM Bool := fun ρ g Q E => a ρ g (fun x g1 => match x with | .bl c => Q c g1 | _ => False) E
@[simp] def tAnd1 (a b : EM Bool) : EM Bool := fun ρ g Q E => a ρ g (fun c g1 => if c = true then b ρ g1 Q E else Q false g1) E
@[simp] def tOr1 (a b : EM Bool) : EM Bool := fun ρ g Q E => a ρ g (fun c g1 => if c = true then Q true g1 else b ρ g1 Q E) E
@[simp] def tNot1 (a : EM Bool) : EM Bool := fun ρ g Q E => a ρ g (fun c g1 => Q (!c) g1) E
/-- a f b f' c -/
def eChain (f f' : D → D → Option D) (ma mb mc : EM D) : EM D := fun ρ g Q E => ma ρ g (fun x g1 => mb ρ g1 (fun y g2 =>
  match f x y with
  | some (.bl true) => mc ρ g2 (fun z g3 => match f' y z with | some r => Q r g3 | none => False) E
  | some (.bl false) => Q (.bl false) g2
  | _ => False) E) E
/-- a bool decides -/
def blK (x : D) (A B : Prop) : Prop := match x with | .bl true => A | .bl false => B | _ => False
def chK (x : Option D) (A B : Prop) : Prop := match x with | some (.bl true) => A | some (.bl false) => B | _ => False
@[simp] theorem blK_bl {c : Bool} {A B : Prop} : blK (.bl c) A B ↔ if c = true then A else B := by cases c <;> rfl
@[simp] theorem chK_bl {c : Bool} {A B : Prop} : chK (some (.bl c)) A B ↔ if c = true then A else B := by cases c <;> rfl
@[simp] theorem eAnd_eq {a b : EM D} {ρ g Q E} : eAnd a b ρ g Q E = a ρ g (fun x g1 => blK x (b ρ g1 Q E) (Q (.bl false) g1)) E := rfl
@[simp] theorem eOr_eq {a b : EM D} {ρ g Q E} : eOr a b ρ g Q E = a ρ g (fun x g1 => blK x (Q (.bl true) g1) (b ρ g1 Q E)) E := rfl
@[simp] theorem eChain_eq {f f' : D → D → Option D} {ma mb mc : EM D} {ρ g Q E} : eChain f f' ma mb mc ρ g Q E = ma ρ g (fun x g1 => mb ρ g1 (fun y g2 => chK (f x y) (mc ρ g2 (fun z g3 => match f' y z with | some r => Q r g3 | none => False) E) (Q (.bl false) g2)) E) E := rfl


/-! ### operations on values -/
def OS1 (X : Cx) (fn : Value → Sem Value) (f : D → Option D) : Prop :=
  ∀ (pins : List (Addr × Obj)) (s : Shared) (σ : L2.St) (H F : Hp) (x : V) (v : Value) (dx dz : D) (Q : VK), Inv X pins σ H s → Same F H → RelV x v → Rep X.K F x dx → f dx = some dz →
    (∀ w F' H', Gro F H F' H' → Rep X.K F' w dz → Q w H') → wpAny (model X.prog X.w) X.A (fn v) (EP X pins σ Q) X.xe s
def OS2 (X : Cx) (fn : Value → Value → Sem Value) (f : D → D → Option D) : Prop :=
  ∀ (pins : List (Addr × Obj)) (s : Shared) (σ : L2.St) (H F : Hp) (x y : V) (v u : Value) (dx dy dz : D) (Q : VK), Inv X pins σ H s → Same F H → RelV x v → RelV y u → Rep X.K F x dx → Rep X.K F y dy → f dx dy = some dz →
    (∀ w F' H', Gro F H F' H' → Rep X.K F' w dz → Q w H') → wpAny (model X.prog X.w) X.A (fn v u) (EP X pins σ Q) X.xe s
/-- a call with values -/
def CS (X : Cx) (fv : Value) (f : List D → Option D) : Prop :=
  ∀ (pins : List (Addr × Obj)) (s : Shared) (σ : L2.St) (H F : Hp) (xs : List V) (us : List Value) (ds : List D) (dz : D) (Q : VK), Inv X pins σ H s → Same F H → Vals xs us → RepL X.K F xs ds → f ds = some dz →
    (∀ w F' H', Gro F H F' H' → Rep X.K F' w dz → Q w H') → wpAny (model X.prog X.w) X.A (call fv us) (EP X pins σ Q) X.xe s
/-- .. that gives a new list -/
def CN (X : Cx) (fv : Value) (f : List D → Option (List D)) : Prop :=
  ∀ (pins : List (Addr × Obj)) (s : Shared) (σ : L2.St) (H F : Hp) (xs : List V) (us : List Value) (ds : List D) (dz : List D) (Q : VK), Inv X pins σ H s → Same F H → Vals xs us → RepL X.K F xs ds → f ds = some dz →
    (∀ p ys F' H', Gro F H F' H' → H p = none → RepL X.K F' ys dz → F' p = none → H' p = none → Q (.ref p) (upd H' p (.lst ys))) → wpAny (model X.prog X.w) X.A (call fv us) (EP X pins σ Q) X.xe s

section
variable {X : Cx} {a b c e : Expr} {es : List Expr} {ma mb mc m : EM D} {ms : EM (List D)} {mt : EM Bool} {pos : Pos}

theorem bin_os {fn : Value → Value → Sem Value} {f : D → D → Option D} (ho : OS2 X fn f) : ∀ (B : Bs), B.K = X.K → OpR X fn (fun x y H Q => ∃ F dx dy dz, Same F H ∧ Rep B.K F x dx ∧ Rep B.K F y dy ∧ f dx dy = some dz ∧ ∀ w F' H', Gro F H F' H' → Rep B.K F' w dz → Q w H') := by
  intro B hB pins s σ H x y v u Q I rx ry h
  obtain ⟨F, dx, dy, dz, h1, h2, h3, h4, h5⟩ := h
  rw [hB] at h2 h3 h5
  exact ho pins s σ H F x y v u dx dy dz Q I h1 rx ry h2 h3 h4 h5

theorem two_w {B : Bs} {W : Wi} {f : D → D → Option D} {r : R2} (hr : ∀ F H x y dx dy dz (Q : VK), Same F H → Rep B.K F x dx → Rep B.K F y dy → f dx dy = some dz → (∀ w F' H', Gro F H F' H' → Rep B.K F' w dz → Q w H') → r x y H Q) :
    ∀ σ H Q, tE B W (e2 f ma mb) σ H Q → tOp r (tE B W ma) (tE B W mb) σ H Q := by
  rintro σ H Q ⟨F, ρ, g, QD, R, w, q⟩
  refine ⟨F, ρ, g, _, R, w, ?_⟩
  intro v1 H1 F1 g1 d1 k1 R1 r1 w1
  refine ⟨F1, ρ, g1, _, R1, w1, ?_⟩
  intro v2 H2 F2 g2 d2 k2 R2 r2 w2
  cases hf : f d1 d2 with
  | none => rw [hf] at w2; exact w2.elim
  | some z =>
    rw [hf] at w2
    refine hr F2 H2 v1 v2 d1 d2 z Q R2.fh (r1.mono k2.ff) r2 hf ?_
    intro w F' H' G1 rw'
    exact q w H' F' g2 z ((k1.trans k2).trans G1.ste) (R2.gro G1) rw' w2

theorem ev_var {i : Nat} {x : Str} (hN : X.N[i]? = some x := by rfl) (hv : Vis X.env.scope x := by first | exact Or.inl rfl | exact Or.inr (Or.inl rfl) | exact Or.inr (Or.inr rfl)) (hd : (x == ("__debug__" : Str)) = false := by decide)
    (hcd : (x == ("__classdict__" : Str)) = false := by decide) : EV X (.Name x pos) (eVar i) := by
  intro B W hB L
  refine pe_mono (pe_var (i := i) hN hv hd hcd) ?_
  rintro σ H Q ⟨F, ρ, g, QD, R, w, q⟩
  unfold eVar at w
  split at w
  · rename_i d hd
    obtain ⟨v, hv, r⟩ := R.sl i _ hd
    exact ⟨v, hv, q v H F g d Ste.refl R r w⟩
  · exact w.elim
theorem ev_c {d : D} {v : V} (h : PE X e (tC v)) (hr : ∀ K F, Rep K F v d) : EV X e (eC d) := by
  intro B W hB L
  refine pe_mono h ?_
  rintro σ H Q ⟨F, ρ, g, QD, R, w, q⟩
  exact q v H F g d Ste.refl R (hr _ _) w
theorem ev_int {i : Int} {j pos} : EV X (.Constant (.int i) j pos) (eC (.int i)) := ev_c pe_int fun _ _ => .int i
theorem ev_bl {i : Bool} {j pos} : EV X (.Constant (.bool i) j pos) (eC (.bl i)) := ev_c pe_bl fun _ _ => .bl i
theorem ev_non {j pos} : EV X (.Constant .none j pos) (eC .non) := ev_c pe_non fun _ _ => .non
theorem ev_str {x : Str} {j pos} : EV X (.Constant (.str x) j pos) (eC (.str x)) := ev_c pe_str fun _ _ => .str x
theorem ev_gint {x : Str} {i : Int} {t : Tok} (hg : Gl X x) (hm : X.mg x = some (.int i t)) (hd : (x == ("__debug__" : Str)) = false := by decide) : EV X (.Name x pos) (eC (.int i)) := ev_c (pe_glob (v := V.int i) hg hm ⟨t, rfl⟩ hd) fun _ _ => .int i
theorem ev_gstr {x : Str} {i : Str} {t : Tok} (hg : Gl X x) (hm : X.mg x = some (.str i t)) (hd : (x == ("__debug__" : Str)) = false := by decide) : EV X (.Name x pos) (eC (.str i)) := ev_c (pe_glob (v := V.str i) hg hm ⟨t, rfl⟩ hd) fun _ _ => .str i

theorem ev_bin {op : Operator} {f : D → D → Option D} (ho : OS2 X (binaryOp op) f) (ha : EV X a ma) (hb : EV X b mb) : EV X (.BinOp a op b pos) (e2 f ma mb) := by
  intro B W hB L
  refine pe_mono (pe_op (bin_os ho B hB) (ha B W hB L) (hb B W hB L)) ?_
  exact two_w fun F H x y dx dy dz Q h1 h2 h3 h4 h5 => ⟨F, dx, dy, dz, h1, h2, h3, h4, h5⟩
theorem ev_cmp {op : CmpOp} {f : D → D → Option D} (ho : OS2 X (compareOp op) f) (ha : EV X a ma) (hb : EV X b mb) (hm : behindInMarks op b = false := by first | exact nomark _ | rfl) : EV X (.Compare a [op] [b] pos) (e2 f ma mb) := by
  intro B W hB L
  refine pe_mono (pe_cmpR (bin_os ho B hB) (ha B W hB L) (hb B W hB L) hm) ?_
  exact two_w fun F H x y dx dy dz Q h1 h2 h3 h4 h5 => ⟨F, dx, dy, dz, h1, h2, h3, h4, h5⟩
theorem Rep.bl_inv {K : PySem.W.Frag} {F : Hp} {v : V} {b : Bool} (h : Rep K F v (.bl b)) : v = .bl b := by cases h; rfl
theorem Rep.int_inv {K : PySem.W.Frag} {F : Hp} {v : V} {b : Int} (h : Rep K F v (.int b)) : v = .int b := by cases h; rfl
theorem Rep.str_inv {K : PySem.W.Frag} {F : Hp} {v : V} {b : Str} (h : Rep K F v (.str b)) : v = .str b := by cases h; rfl
theorem Rep.non_inv {K : PySem.W.Frag} {F : Hp} {v : V} (h : Rep K F v .non) : v = .non := by cases h; rfl
/-- a test from a value that is a bool -/
theorem tB1_w {B : Bs} {W : Wi} : ∀ σ H Q, tT B W (tB1 m) σ H Q → tE B W m σ H fun x H1 => ∃ c, x = .bl c ∧ Q c H1 := by
  rintro σ H Q ⟨F, ρ, g, QD, R, w, q⟩
  refine ⟨F, ρ, g, _, R, w, ?_⟩
  intro v1 H1 F1 g1 d1 k1 R1 r1 w1
  cases d1 with
  | bl c => exact ⟨c, r1.bl_inv, q c H1 F1 g1 k1 R1 w1⟩
  | _ => exact w1.elim
theorem et_val (h : EV X e m) (he : ∀ whole, isTrue e X.env whole = (do let v ← whole; standAt e.pos; holding [v] (truthy v)) := by intro _; rfl) : ET X e (tB1 m) := by
  intro B W hB L
  exact pt_mono (pt_val (h B W hB L) he) tB1_w
theorem et_cmp {op : CmpOp} {f : D → D → Option D} (ho : OS2 X (compareOp op) f) (ha : EV X a ma) (hb : EV X b mb) (hm : behindInMarks op b = false := by first | exact nomark _ | rfl) : ET X (.Compare a [op] [b] pos) (tB1 (e2 f ma mb)) := by
  intro B W hB L
  refine pt_mono (pt_cmpR (bin_os ho B hB) (ha B W hB L) (hb B W hB L) hm) ?_
  intro σ H Q h
  have h1 := tB1_w σ H Q h
  exact two_w (fun F H x y dx dy dz Q h1 h2 h3 h4 h5 => ⟨F, dx, dy, dz, h1, h2, h3, h4, h5⟩) σ H _ h1
theorem chain_w {B : Bs} {W : Wi} {f f' : D → D → Option D} {r r' : R2}
    (hr : ∀ F H x y dx dy dz (Q : VK), Same F H → Rep B.K F x dx → Rep B.K F y dy → f dx dy = some dz → (∀ w F' H', Gro F H F' H' → Rep B.K F' w dz → Q w H') → r x y H Q)
    (hr' : ∀ F H x y dx dy dz (Q : VK), Same F H → Rep B.K F x dx → Rep B.K F y dy → f' dx dy = some dz → (∀ w F' H', Gro F H F' H' → Rep B.K F' w dz → Q w H') → r' x y H Q) :
    ∀ σ H Q, tE B W (eChain f f' ma mb mc) σ H Q → tChain r r' (tE B W ma) (tE B W mb) (tE B W mc) σ H Q := by
  rintro σ H Q ⟨F, ρ, g, QD, R, w, q⟩
  refine ⟨F, ρ, g, _, R, w, ?_⟩
  intro v1 H1 F1 g1 d1 k1 R1 r1 w1
  refine ⟨F1, ρ, g1, _, R1, w1, ?_⟩
  intro v2 H2 F2 g2 d2 k2 R2 r2 w2
  split at w2
  · rename_i hf
    refine hr F2 H2 v1 v2 d1 d2 _ _ R2.fh (r1.mono k2.ff) r2 hf ?_
    intro w F' H' G1 rw'
    refine ⟨true, rw'.bl_inv, ?_⟩
    rw [if_pos rfl]
    refine ⟨F', ρ, g2, _, R2.gro G1, w2, ?_⟩
    intro v3 H3 F3 g3 d3 k3 R3 r3 w3
    cases hf' : f' d2 d3 with
    | none => rw [hf'] at w3; exact w3.elim
    | some z =>
      rw [hf'] at w3
      refine hr' F3 H3 v2 v3 d2 d3 z Q R3.fh ((r2.mono G1.ff).mono k3.ff) r3 hf' ?_
      intro w F4 H4 G4 rw4
      exact q w H4 F4 g3 z ((((k1.trans k2).trans G1.ste).trans k3).trans G4.ste) (R3.gro G4) rw4 w3
  · rename_i hf
    refine hr F2 H2 v1 v2 d1 d2 _ _ R2.fh (r1.mono k2.ff) r2 hf ?_
    intro w F' H' G1 rw'
    refine ⟨false, rw'.bl_inv, ?_⟩
    rw [if_neg Bool.false_ne_true]
    exact q _ H' F' g2 _ ((k1.trans k2).trans G1.ste) (R2.gro G1) (.bl false) w2
  · exact w2.elim
theorem ev_chain {op op' : CmpOp} {f f' : D → D → Option D} (ho : OS2 X (compareOp op) f) (ho' : OS2 X (compareOp op') f') (ha : EV X a ma) (hb : EV X b mb) (hc : EV X c mc)
    (hm : lastMarks [op, op'] [b, c] = false := by with_unfolding_all rfl) : EV X (.Compare a [op, op'] [b, c] pos) (eChain f f' ma mb mc) := by
  intro B W hB L
  refine pe_mono (pe_chain (bin_os ho B hB) (bin_os ho' B hB) (ha B W hB L) (hb B W hB L) (hc B W hB L) hm) ?_
  exact chain_w (fun F H x y dx dy dz Q h1 h2 h3 h4 h5 => ⟨F, dx, dy, dz, h1, h2, h3, h4, h5⟩) (fun F H x y dx dy dz Q h1 h2 h3 h4 h5 => ⟨F, dx, dy, dz, h1, h2, h3, h4, h5⟩)
end
end DL

set_option Elab.async false
set_option linter.all false
set_option maxRecDepth 100000
/-! DL3: expressions, calls. -/
namespace DL
open PySem PySem.Spec PyProof.Rows L2
section
variable {X : Cx} {a b c e : Expr} {es rest : List Expr} {ma mb mc m : EM D} {ms : EM (List D)} {mt mu : EM Bool} {pos : Pos}

theorem et_chain {op op' : CmpOp} {f f' : D → D → Option D} (ho : OS2 X (compareOp op) f) (ho' : OS2 X (compareOp op') f') (ha : EV X a ma) (hb : EV X b mb) (hc : EV X c mc)
    (hm : lastMarks [op, op'] [b, c] = false := by with_unfolding_all rfl) : ET X (.Compare a [op, op'] [b, c] pos) (tB1 (eChain f f' ma mb mc)) := by
  intro B W hB L
  refine pt_mono (pt_chain (bin_os ho B hB) (bin_os ho' B hB) (ha B W hB L) (hb B W hB L) (hc B W hB L) hm) ?_
  intro σ H Q h
  have h1 := tB1_w σ H Q h
  exact chain_w (fun F H x y dx dy dz Q h1 h2 h3 h4 h5 => ⟨F, dx, dy, dz, h1, h2, h3, h4, h5⟩) (fun F H x y dx dy dz Q h1 h2 h3 h4 h5 => ⟨F, dx, dy, dz, h1, h2, h3, h4, h5⟩) σ H _ h1

/-! ### and, or, not, if -/
theorem ev_one {op} (h : EV X a m) : EV X (.BoolOp op [a] pos) m := fun B W hB L => pe_one (h B W hB L)
theorem ev_and (ha : EV X a ma) (hb : EV X (.BoolOp .And (b :: rest) pos) mb) : EV X (.BoolOp .And (a :: b :: rest) pos) (eAnd ma mb) := by
  intro B W hB L
  refine pe_mono (pe_and (ha B W hB L) (hb B W hB L)) ?_
  rintro σ H Q ⟨F, ρ, g, QD, R, w, q⟩
  refine ⟨F, ρ, g, _, R, w, ?_⟩
  intro v1 H1 F1 g1 d1 k1 R1 r1 w1
  cases d1 with
  | bl k =>
    refine ⟨k, r1.bl_inv, ?_⟩
    cases k with
    | true =>
      rw [if_pos rfl]
      exact ⟨F1, ρ, g1, _, R1, w1, fun v2 H2 F2 g2 d2 k2 R2 r2 w2 => q v2 H2 F2 g2 d2 (k1.trans k2) R2 r2 w2⟩
    | false =>
      rw [if_neg Bool.false_ne_true]
      exact q _ H1 F1 g1 _ k1 R1 (.bl false) w1
  | _ => exact w1.elim
theorem ev_or (ha : EV X a ma) (hb : EV X (.BoolOp .Or (b :: rest) pos) mb) : EV X (.BoolOp .Or (a :: b :: rest) pos) (eOr ma mb) := by
  intro B W hB L
  refine pe_mono (pe_or (ha B W hB L) (hb B W hB L)) ?_
  rintro σ H Q ⟨F, ρ, g, QD, R, w, q⟩
  refine ⟨F, ρ, g, _, R, w, ?_⟩
  intro v1 H1 F1 g1 d1 k1 R1 r1 w1
  cases d1 with
  | bl k =>
    refine ⟨k, r1.bl_inv, ?_⟩
    cases k with
    | false =>
      rw [if_neg Bool.false_ne_true]
      exact ⟨F1, ρ, g1, _, R1, w1, fun v2 H2 F2 g2 d2 k2 R2 r2 w2 => q v2 H2 F2 g2 d2 (k1.trans k2) R2 r2 w2⟩
    | true =>
      rw [if_pos rfl]
      exact q _ H1 F1 g1 _ k1 R1 (.bl true) w1
  | _ => exact w1.elim
theorem ev_not (ha : EV X a ma) : EV X (.UnaryOp .Not a pos) (eNot ma) := by
  intro B W hB L
  refine pe_mono (pe_not (ha B W hB L)) ?_
  rintro σ H Q ⟨F, ρ, g, QD, R, w, q⟩
  refine ⟨F, ρ, g, _, R, w, ?_⟩
  intro v1 H1 F1 g1 d1 k1 R1 r1 w1
  cases d1 with
  | bl k => exact ⟨k, r1.bl_inv, q _ H1 F1 g1 _ k1 R1 (.bl _) w1⟩
  | _ => exact w1.elim
/-- a test whatever its 'whole' is -/
def EW (X : Cx) (e : Expr) (m : EM Bool) : Prop := ∀ B W, B.K = X.K → Lk X B W → PW X e (tT B W m)
theorem et_w (h : EW X e mt) : ET X e mt := fun B W hB L => (h B W hB L).pt
theorem ew_and1 (h : ET X a mt) : EW X (.BoolOp .And [a] pos) mt := fun B W hB L => pw_and1 (h B W hB L)
theorem ew_or1 (h : ET X a mt) : EW X (.BoolOp .Or [a] pos) mt := fun B W hB L => pw_or1 (h B W hB L)
theorem ew_and (ha : ET X a mt) (hb : EW X (.BoolOp .And (b :: rest) pos) mu) : EW X (.BoolOp .And (a :: b :: rest) pos) (tAnd1 mt mu) := by
  intro B W hB L
  refine pw_mono (pw_and (ha B W hB L) (hb B W hB L)) ?_
  rintro σ H Q ⟨F, ρ, g, QD, R, w, q⟩
  refine ⟨F, ρ, g, _, R, w, ?_⟩
  intro k H1 F1 g1 k1 R1 w1
  cases k with
  | true =>
    rw [if_pos rfl] at w1 ⊢
    exact ⟨F1, ρ, g1, _, R1, w1, fun v2 H2 F2 g2 k2 R2 w2 => q v2 H2 F2 g2 (k1.trans k2) R2 w2⟩
  | false =>
    rw [if_neg Bool.false_ne_true] at w1 ⊢
    exact q _ H1 F1 g1 k1 R1 w1
theorem ew_or (ha : ET X a mt) (hb : EW X (.BoolOp .Or (b :: rest) pos) mu) : EW X (.BoolOp .Or (a :: b :: rest) pos) (tOr1 mt mu) := by
  intro B W hB L
  refine pw_mono (pw_or (ha B W hB L) (hb B W hB L)) ?_
  rintro σ H Q ⟨F, ρ, g, QD, R, w, q⟩
  refine ⟨F, ρ, g, _, R, w, ?_⟩
  intro k H1 F1 g1 k1 R1 w1
  cases k with
  | false =>
    rw [if_neg Bool.false_ne_true] at w1 ⊢
    exact ⟨F1, ρ, g1, _, R1, w1, fun v2 H2 F2 g2 k2 R2 w2 => q v2 H2 F2 g2 (k1.trans k2) R2 w2⟩
  | true =>
    rw [if_pos rfl] at w1 ⊢
    exact q _ H1 F1 g1 k1 R1 w1
theorem et_not (ha : ET X a mt) : ET X (.UnaryOp .Not a pos) (tNot1 mt) := by
  intro B W hB L
  refine pt_mono (pt_not (ha B W hB L)) ?_
  rintro σ H Q ⟨F, ρ, g, QD, R, w, q⟩
  exact ⟨F, ρ, g, _, R, w, fun k H1 F1 g1 k1 R1 w1 => q _ H1 F1 g1 k1 R1 w1⟩
theorem ev_if {t : Expr} (ht : ET X t mt) (ha : EV X a ma) (hb : EV X b mb) : EV X (.IfExp t a b pos) (eIf mt ma mb) := by
  intro B W hB L
  refine pe_mono (pe_ifExp (ht B W hB L) (ha B W hB L) (hb B W hB L)) ?_
  rintro σ H Q ⟨F, ρ, g, QD, R, w, q⟩
  refine ⟨F, ρ, g, _, R, w, ?_⟩
  intro k H1 F1 g1 k1 R1 w1
  cases k with
  | false =>
    rw [if_neg Bool.false_ne_true] at w1 ⊢
    exact ⟨F1, ρ, g1, _, R1, w1, fun v2 H2 F2 g2 d2 k2 R2 r2 w2 => q v2 H2 F2 g2 d2 (k1.trans k2) R2 r2 w2⟩
  | true =>
    rw [if_pos rfl] at w1 ⊢
    exact ⟨F1, ρ, g1, _, R1, w1, fun v2 H2 F2 g2 d2 k2 R2 r2 w2 => q v2 H2 F2 g2 d2 (k1.trans k2) R2 r2 w2⟩

/-! ### argument lists, displays -/
theorem es_nil : EVs X [] esNil := by
  intro B W hB L
  refine pa_mono pa_nil ?_
  rintro σ H Q ⟨F, ρ, g, QD, R, w, q⟩
  exact q [] H F g [] Ste.refl R .nil w
theorem es_cons (ha : EV X a ma) (hb : EVs X es ms) (hs : starEach (a :: es) X.env = (false, eval a X.env) :: starEach es X.env := by rfl) : EVs X (a :: es) (esCons ma ms) := by
  intro B W hB L
  refine pa_mono (pa_cons (ha B W hB L) (hb B W hB L) hs) ?_
  rintro σ H Q ⟨F, ρ, g, QD, R, w, q⟩
  refine ⟨F, ρ, g, _, R, w, ?_⟩
  intro v1 H1 F1 g1 d1 k1 R1 r1 w1
  refine ⟨F1, ρ, g1, _, R1, w1, ?_⟩
  intro v2 H2 F2 g2 d2 k2 R2 r2 w2
  exact q _ H2 F2 g2 _ (k1.trans k2) R2 (.cons (r1.mono k2.ff) r2) w2
/-- (a, b, ..) -/
@[simp] def eTup (ms : EM (List D)) : EM D := fun ρ g Q E => ms ρ g (fun xs g1 => xs.length ≤ sizeLine ∧ Q (.tup xs) g1) E
def tTupN (t : TA) : TE := fun σ H Q => t σ H fun xs H1 => xs.length ≤ sizeLine ∧ ∀ p o, H1 p = none → o.dict = none → Q (.ref p) (upd H1 p (.frz o (.tup xs)))
/-- a tuple laid, its object told -/
theorem lay_tup {pins : List (Addr × Obj)} {σ : L2.St} {H : Hp} {s : Shared} {tk : Nat} {xs : List V} {us : List Value} (I : Inv X pins σ H s) (r : Vals xs us) (z : xs.length ≤ sizeLine) :
    Inv X pins σ (upd H s.heap.objs.size (.frz { cls := .type "tuple", data := .seq us.toArray } (.tup xs))) { s with heap := s.heap.push { cls := .type "tuple", data := .seq us.toArray }, toks := tk } :=
  I.laid (fun b u e => Heap.get?_push_of_some _ e) (Nat.le_refl _) ⟨Heap.get?_push_size _ rfl, z, us, r, ⟨_, Heap.get?_push_size _ rfl, rfl, _, rfl⟩⟩
theorem pe_tupN {k : Nat} {t : TA} (h : PA X es t) : PE X (.Tuple es k pos) (tTupN t) := by
  refine ⟨fun pins s σ H Q I hq => ?_⟩
  refine wpAny_Tuple_spliced (thn (h.run pos pins s σ H _ I hq) fun us s1 ⟨xs, H1, I1, r, z, q⟩ => ⟨by rw [← r.length]; exact z, ?_⟩)
  exact ⟨.ref s1.heap.objs.size, _, lay_tup (tk := s1.toks) I1 r z, rfl, q _ _ (I1.hok.fresh (Nat.le_refl _)) rfl⟩
theorem ev_tup {k} (h : EVs X es ms) : EV X (.Tuple es k pos) (eTup ms) := by
  intro B W hB L
  refine pe_mono (pe_tupN (h B W hB L)) ?_
  rintro σ H Q ⟨F, ρ, g, QD, R, w, q⟩
  refine ⟨F, ρ, g, _, R, w, ?_⟩
  intro vs H1 F1 g1 ds k1 R1 r1 w1
  refine ⟨by rw [r1.length]; exact w1.1, fun p o hp ho => ?_⟩
  have G1 := Gro.lay (o := .frz o (.tup vs)) R1.fh hp
  exact q _ _ _ g1 _ (k1.trans G1.ste) (R1.gro G1) (.tup (.inl ⟨o, upd_same, ho⟩) (r1.mono G1.ff)) w1.2
/-- [a, b, ..], frozen | new -/
@[simp] def eLst (ms : EM (List D)) : EM D := fun ρ g Q E => ms ρ g (fun xs g1 => xs.length ≤ sizeLine ∧ Q (.lst xs) g1) E
@[simp] def nLst (ms : EM (List D)) : EM (List D) := fun ρ g Q E => ms ρ g (fun xs g1 => xs.length ≤ sizeLine ∧ Q xs g1) E
theorem en_lst (h : EVs X es ms) : EN X (.List es pos) (nLst ms) := by
  intro B W hB L
  refine pe_mono (pe_lst (h B W hB L)) ?_
  rintro σ H Q ⟨F, ρ, g, QD, R, w, q⟩
  refine ⟨F, ρ, g, _, R, w, ?_⟩
  intro vs H1 F1 g1 ds k1 R1 r1 w1
  refine ⟨by rw [r1.length]; exact w1.1, fun p hp => ?_⟩
  have G1 := Gro.lay0 (o := .lst vs) R1.fh hp
  exact q p vs _ _ g1 _ (k1.trans G1.ste) (R1.gro G1) (k1.none hp) upd_same (R1.fh.free hp) (R1.fresh_g hp) (R1.fresh_0 hp) (R1.fresh_s hp) r1 w1.2
/-- a new list that is frozen at once -/
@[simp] def eFz (m : EM (List D)) : EM D := fun ρ g Q E => m ρ g (fun xs g1 => Q (.lst xs) g1) E
theorem ev_fz {n : EM (List D)} (h : EN X e n) : EV X e (eFz n) := by
  intro B W hB L
  refine pe_mono (h B W hB L) ?_
  rintro σ H Q ⟨F, ρ, g, QD, R, w, q⟩
  refine ⟨F, ρ, g, _, R, w, ?_⟩
  intro p xs H1 F1 g1 ds k1 R1 hn h1 f1 gn h0 hs r1 w1
  have ef : Same F1 (upd F1 p (.lst xs)) := fun b u e => by rw [upd_ne (ne_of_none e f1)]; exact e
  have R2 : Rl B (upd F1 p (.lst xs)) ρ g1 σ H1 := R1.freeze h1 f1 gn h0 hs
  have k2 : Ste g H F g1 H1 (upd F1 p (.lst xs)) := ⟨fun a o z => ef a o (k1.ff a o z), k1.kp, k1.dm, fun a o z => by
    by_cases hb : a = p
    · subst hb; exact .inr hn
    · rw [upd_ne hb] at z; exact k1.fn a o z⟩
  exact q _ H1 (upd F1 p (.lst xs)) g1 (.lst ds) k2 R2 (.lst (.inl (.inl upd_same)) (r1.mono ef)) w1
end
end DL

set_option Elab.async false
set_option linter.all false
set_option maxRecDepth 100000
/-! DL4: own lists read, calls, places. -/
namespace DL
open PySem PySem.Spec PyProof.Rows L2
section
variable {X : Cx} {a b c e : Expr} {es rest : List Expr} {ma mb mc m : EM D} {ms : EM (List D)} {mt mu : EM Bool} {pos : Pos}

/-! ### own lists read in an expression -/
@[simp] def eBor (m : EM D) : EM D := fun ρ g Q E => m (thaw ρ) g (fun d g' => nol d = true ∧ Q d g') (fun _ _ => False)
@[simp] def tBor (m : EM Bool) : EM Bool := fun ρ g Q E => m (thaw ρ) g (fun d g' => Q d g') (fun _ _ => False)
@[simp] def nBor (m : EM (List D)) : EM (List D) := fun ρ g Q E => m (thaw ρ) g (fun d g' => nolL d = true ∧ Q d g') (fun _ _ => False)
theorem lk_false {B : Bs} : Lk X B (fun _ _ _ => False) := fun u s' h => by
  obtain ⟨_, _, _, _, _, _, _, _, _, _, _, _, _, _, _, _, _, _, _, _, _, _, z⟩ := h
  exact z.elim
theorem ev_bor (h : EV X e m) : EV X e (eBor m) := by
  intro B W hB L
  refine pe_mono (h B (fun _ _ _ => False) hB lk_false) ?_
  rintro σ H Q ⟨F, ρ, g, QD, R, w, q⟩
  refine ⟨_, _, g, _, R.thaw, w, ?_⟩
  intro v H' F' g' d k1 R1 r1 w1
  obtain ⟨f2, R2⟩ := R.unthaw R1 k1
  exact q v H' _ g' d f2 R2 (R.nol_rep k1.ff w1.1 r1) w1.2
theorem et_bor (h : ET X e mt) : ET X e (tBor mt) := by
  intro B W hB L
  refine pt_mono (h B (fun _ _ _ => False) hB lk_false) ?_
  rintro σ H Q ⟨F, ρ, g, QD, R, w, q⟩
  refine ⟨_, _, g, _, R.thaw, w, ?_⟩
  intro v H' F' g' k1 R1 w1
  obtain ⟨f2, R2⟩ := R.unthaw R1 k1
  exact q v H' _ g' f2 R2 w1
theorem en_bor (h : EN X e ms) : EN X e (nBor ms) := by
  intro B W hB L
  refine pe_mono (h B (fun _ _ _ => False) hB lk_false) ?_
  rintro σ H Q ⟨F, ρ, g, QD, R, w, q⟩
  refine ⟨_, _, g, _, R.thaw, w, ?_⟩
  intro p xs H' F' g' ds k1 R1 hn h1 hf hg h0 hs r1 w1
  obtain ⟨f2, R2⟩ := R.unthaw R1 k1
  have hf2 : narrow ρ σ F' p = none := by
    unfold narrow
    split
    · rfl
    · exact hf
  refine q p xs H' _ g' ds f2 R2 hn h1 hf2 hg h0 (fun i es z z2 => ?_) (R.nol_repL k1.ff w1.1 r1) w1.2
  have ha : IsAcc ρ σ p := ⟨i, es, z, z2⟩
  obtain ⟨ys, q1, _⟩ := R.acc_at ha
  have : F' p = some (.lst ys) := k1.ff p _ (by unfold wide; rw [if_pos ha]; exact q1)
  rw [hf] at this; cases this

/-! ### calls of built-ins -/
theorem ev_callB {x : Str} {p : Pos} {id : String} {f : List D → Option D} (hc : CS X (.builtin id) f) (hg : Gl X x) (hm : X.mg x = none) (hv : bootBuiltins x = some (.builtin id)) (ha : EVs X (e :: es) ms) (hn : x ≠ "__name__" := by decide) (hdb : (x == ("__debug__" : Str)) = false := by decide)
    (he : starEach (e :: es) X.env = (false, eval e X.env) :: starEach es X.env := by rfl) (hpl : (backTo pos (starEach es X.env)).any (·.1) = false := by rfl) : EV X (.Call (.Name x p) (e :: es) [] pos) (eL f ms) := by
  intro B W hB L
  refine pe_mono (pe_callB (r := fun vs H Q => ∃ F ds dz, Same F H ∧ RepL B.K F vs ds ∧ f ds = some dz ∧ ∀ w F' H', Gro F H F' H' → Rep B.K F' w dz → Q w H') ?_ hg hm hv (ha B W hB L) hn hdb he hpl) ?_
  · intro pins s σ H xs us Q I r h
    obtain ⟨F, ds, dz, h1, h2, h3, h4⟩ := h
    rw [hB] at h2 h4
    exact hc pins s σ H F xs us ds dz Q I h1 r h2 h3 h4
  · rintro σ H Q ⟨F, ρ, g, QD, R, w, q⟩
    refine ⟨F, ρ, g, _, R, w, ?_⟩
    intro vs H1 F1 g1 ds k1 R1 r1 w1
    cases hf : f ds with
    | none => rw [hf] at w1; exact w1.elim
    | some z =>
      rw [hf] at w1
      exact ⟨F1, ds, z, R1.fh, r1, hf, fun w F' H' G1 rw' => q w H' F' g1 z (k1.trans G1.ste) (R1.gro G1) rw' w1⟩
theorem ev_callTy {x : Str} {p : Pos} {T : String} {f : List D → Option D} (hc : CS X (.type T) f) (hg : Gl X x) (hm : X.mg x = none) (hv : bootBuiltins x = some (.type T)) (ha : EVs X (e :: es) ms) (hn : x ≠ "__name__" := by decide) (hdb : (x == ("__debug__" : Str)) = false := by decide)
    (he : starEach (e :: es) X.env = (false, eval e X.env) :: starEach es X.env := by rfl) (hpl : (backTo pos (starEach es X.env)).any (·.1) = false := by rfl) : EV X (.Call (.Name x p) (e :: es) [] pos) (eL f ms) := by
  intro B W hB L
  refine pe_mono (pe_callTy (r := fun vs H Q => ∃ F ds dz, Same F H ∧ RepL B.K F vs ds ∧ f ds = some dz ∧ ∀ w F' H', Gro F H F' H' → Rep B.K F' w dz → Q w H') ?_ hg hm hv (ha B W hB L) hn hdb he hpl) ?_
  · intro pins s σ H xs us Q I r h
    obtain ⟨F, ds, dz, h1, h2, h3, h4⟩ := h
    rw [hB] at h2 h4
    exact hc pins s σ H F xs us ds dz Q I h1 r h2 h3 h4
  · rintro σ H Q ⟨F, ρ, g, QD, R, w, q⟩
    refine ⟨F, ρ, g, _, R, w, ?_⟩
    intro vs H1 F1 g1 ds k1 R1 r1 w1
    cases hf : f ds with
    | none => rw [hf] at w1; exact w1.elim
    | some z =>
      rw [hf] at w1
      exact ⟨F1, ds, z, R1.fh, r1, hf, fun w F' H' G1 rw' => q w H' F' g1 z (k1.trans G1.ste) (R1.gro G1) rw' w1⟩
/-- .. that give a new list -/
@[simp] def nL (f : List D → Option (List D)) (m : EM (List D)) : EM (List D) := fun ρ g Q E => m ρ g (fun xs g1 => match f xs with | some z => Q z g1 | none => False) E
theorem new_w {B : Bs} {W : Wi} {f : List D → Option (List D)} : ∀ σ H Q, tN B W (nL f ms) σ H Q → tEs B W ms σ H fun vs H1 => ∃ F ds dz, Same F H1 ∧ RepL B.K F vs ds ∧ f ds = some dz ∧
    ∀ p ys F' H', Gro F H1 F' H' → H1 p = none → RepL B.K F' ys dz → F' p = none → H' p = none → Q (.ref p) (upd H' p (.lst ys)) := by
  rintro σ H Q ⟨F, ρ, g, QD, R, w, q⟩
  refine ⟨F, ρ, g, _, R, w, ?_⟩
  intro vs H1 F1 g1 ds k1 R1 r1 w1
  cases hf : f ds with
  | none => rw [hf] at w1; exact w1.elim
  | some z =>
    rw [hf] at w1
    refine ⟨F1, ds, z, R1.fh, r1, hf, fun p ys F' H' G1 hp ry f' h' => ?_⟩
    have R2 := R1.gro G1
    have G2 := Gro.lay0 (o := .lst ys) R2.fh h'
    exact q p ys _ F' g1 z ((k1.trans G1.ste).trans G2.ste) (R2.gro G2) (k1.none hp) upd_same f' (R1.fresh_g hp) (R1.fresh_0 hp) (R1.fresh_s hp) ry w1
theorem en_callB {x : Str} {p : Pos} {id : String} {f : List D → Option (List D)} (hc : CN X (.builtin id) f) (hg : Gl X x) (hm : X.mg x = none) (hv : bootBuiltins x = some (.builtin id)) (ha : EVs X (e :: es) ms) (hn : x ≠ "__name__" := by decide) (hdb : (x == ("__debug__" : Str)) = false := by decide)
    (he : starEach (e :: es) X.env = (false, eval e X.env) :: starEach es X.env := by rfl) (hpl : (backTo pos (starEach es X.env)).any (·.1) = false := by rfl) : EN X (.Call (.Name x p) (e :: es) [] pos) (nL f ms) := by
  intro B W hB L
  refine pe_mono (pe_callB (r := fun vs H Q => ∃ F ds dz, Same F H ∧ RepL B.K F vs ds ∧ f ds = some dz ∧ ∀ p ys F' H', Gro F H F' H' → H p = none → RepL B.K F' ys dz → F' p = none → H' p = none → Q (.ref p) (upd H' p (.lst ys))) ?_ hg hm hv (ha B W hB L) hn hdb he hpl) new_w
  intro pins s σ H xs us Q I r h
  obtain ⟨F, ds, dz, h1, h2, h3, h4⟩ := h
  rw [hB] at h2 h4
  exact hc pins s σ H F xs us ds dz Q I h1 r h2 h3 h4
theorem en_callTy {x : Str} {p : Pos} {T : String} {f : List D → Option (List D)} (hc : CN X (.type T) f) (hg : Gl X x) (hm : X.mg x = none) (hv : bootBuiltins x = some (.type T)) (ha : EVs X (e :: es) ms) (hn : x ≠ "__name__" := by decide) (hdb : (x == ("__debug__" : Str)) = false := by decide)
    (he : starEach (e :: es) X.env = (false, eval e X.env) :: starEach es X.env := by rfl) (hpl : (backTo pos (starEach es X.env)).any (·.1) = false := by rfl) : EN X (.Call (.Name x p) (e :: es) [] pos) (nL f ms) := by
  intro B W hB L
  refine pe_mono (pe_callTy (r := fun vs H Q => ∃ F ds dz, Same F H ∧ RepL B.K F vs ds ∧ f ds = some dz ∧ ∀ p ys F' H', Gro F H F' H' → H p = none → RepL B.K F' ys dz → F' p = none → H' p = none → Q (.ref p) (upd H' p (.lst ys))) ?_ hg hm hv (ha B W hB L) hn hdb he hpl) new_w
  intro pins s σ H xs us Q I r h
  obtain ⟨F, ds, dz, h1, h2, h3, h4⟩ := h
  rw [hB] at h2 h4
  exact hc pins s σ H F xs us ds dz Q I h1 r h2 h3 h4

/-! ### calls of own defs -/
structure Def (P : Program) (w : World) (K : PySem.W.Frag) (mg : Str → Option Value) (base : Heap) (x : Str) (k : Nat) (sp : FSp) : Prop where
  ex : ∃ (f : Addr) (fd : FuncData) (ps : List Str), FnG P w K mg base (L2.CX P w) k f fd ps (lift K sp) ∧ mg x = some (.ref f) ∧ PySem.W.keepIn K (.ref f) = true ∧ Binds K fd ps []
/-- what comes behind a call: a rewriter cannot look into it -/
structure Wrap (Q : D → G → Prop) : Type where
def Hide (Q : D → G → Prop) (_ : Wrap Q) : D → G → Prop := Q
@[simp] theorem Hide_app {Q : D → G → Prop} {w : Wrap Q} {d : D} {g : G} : Hide Q w d g ↔ Q d g := Iff.rfl
@[simp] def eCall (sp : FSp) (ms : EM (List D)) : EM D := fun ρ g Q E => ms ρ g (fun ds g1 => sp ds g1 (Hide Q ⟨⟩) E) E
theorem ev_call {x : Str} {p : Pos} {k : Nat} {sp : FSp} (hD : Def X.prog X.w X.K X.mg X.base x k sp) (hr : RoomG k X.A) (hg : Gl X x) (ha : EVs X (e :: es) ms) (hdb : (x == ("__debug__" : Str)) = false := by decide)
    (he : starEach (e :: es) X.env = (false, eval e X.env) :: starEach es X.env := by rfl) (hpl : (backTo pos (starEach es X.env)).any (·.1) = false := by rfl) : EV X (.Call (.Name x p) (e :: es) [] pos) (eCall sp ms) := by
  intro B W hB L
  obtain ⟨f, fd, ps, hF, hm, hk, hb⟩ := hD.ex
  refine pe_mono (pe_callG (E := WE (WXof B W)) hF hr hg hm hk hb .nil (fun σ => passAt L σ) (ha B W hB L) hdb he hpl) ?_
  rintro σ H Q ⟨F, ρ, g, QD, R, w, q⟩
  refine ⟨F, ρ, g, _, R, w, ?_⟩
  intro vs H1 F1 g1 ds k1 R1 r1 w1
  rw [List.append_nil, ← hB]
  refine ⟨F1, g1, ds, QD, _, r1, R1.enter, w1, ?_, ?_⟩
  · intro v H' F' g' d C r w2
    exact q v H' F' g' d (k1.trans (Rl.ste C)) (R1.after C) r w2
  · intro cls dx H' F' g' x C xr w2
    exact ⟨F', ρ, g', x, R1.after C, xr, w2⟩

/-! ### places -/
@[simp] def ixD (x i : D) : Option D := match x, i with
  | .tup ds, .int i => atI ds i
  | .ptp ds, .int i => atI ds i
  | .lst ds, .int i => atI ds i
  | .str z, .int i => if z.length ≤ sizeLine then (atI z.cps.toList i).map fun c => .str ⟨#[c]⟩ else none
  | _, _ => none
theorem atI_rep {K : PySem.W.Frag} {F : Hp} {xs : List V} {ds : List D} {i : Int} {d : D} (h : RepL K F xs ds) (e : atI ds i = some d) : ∃ v, atI xs i = some v ∧ Rep K F v d := by
  unfold atI at e ⊢
  rw [h.length]
  cases q : ixN ds.length i with
  | none => rw [q] at e; cases e
  | some j =>
    rw [q] at e
    exact h.get (i := j) e
theorem ev_ix (ha : EV X a ma) (hb : EV X b mb) (hs : PlainIx b := by exact fun _ _ => rfl) : EV X (.Subscript a b pos) (e2 ixD ma mb) := by
  intro B W hB L
  refine pe_mono (pe_ix (IxR.or (IxR.or ix_tup ix_list) ix_str) (ha B W hB L) (hb B W hB L) hs) ?_
  refine two_w ?_
  intro F H x y dx dy dz Q h1 h2 h3 h4 h5
  unfold ixD at h4
  split at h4
  · cases h3.int_inv
    cases h2 with
    | tup hs hr =>
      obtain ⟨v, e1, r⟩ := atI_rep hr h4
      exact .inl (.inl ⟨_, _, _, v, rfl, rfl, by rw [← hB]; exact same_sqT h1 hs.sqT, e1, h5 _ F H (Gro.refl h1) r⟩)
  · cases h3.int_inv
    cases h2 with
    | ptp hs hr =>
      obtain ⟨v, e1, r⟩ := atI_rep hr h4
      exact .inl (.inl ⟨_, _, _, v, rfl, rfl, by rw [← hB]; exact same_sqT h1 hs, e1, h5 _ F H (Gro.refl h1) r⟩)
  · cases h3.int_inv
    cases h2 with
    | lst hs hr =>
      obtain ⟨v, e1, r⟩ := atI_rep hr h4
      exact .inl (.inr ⟨_, _, _, v, rfl, rfl, by rw [← hB]; exact h1.seq hs, e1, h5 _ F H (Gro.refl h1) r⟩)
  · cases h3.int_inv
    cases h2.str_inv
    split at h4
    · rename_i hz
      cases q : atI _ _ with
      | none => rw [q] at h4; cases h4
      | some c =>
        rw [q] at h4
        cases h4
        exact .inr ⟨_, _, c, rfl, rfl, hz, q, h5 _ F H (Gro.refl h1) (.str _)⟩
    · cases h4
  · cases h4
end
end DL

set_option Elab.async false
set_option linter.all false
set_option maxRecDepth 100000
/-! DL5: slices, what is walked, targets, comprehensions. -/
namespace DL
open PySem PySem.Spec PyProof.Rows L2
section
variable {X : Cx} {a b c e : Expr} {es rest : List Expr} {ma mb mc m : EM D} {ms : EM (List D)} {mt mu : EM Bool} {pos : Pos}

/-! ### slots stored -/
theorem Rl.set {B : Bs} {F : Hp} {ρ : Rho} {g : G} {σ : L2.St} {H : Hp} (R : Rl B F ρ g σ H) (i : Nat) {v : V} {d : D} (r : Rep B.K F v d) : Rl B F (ρ.set i (.val d)) g (σ.set i (some v)) H where
  fh := R.fh
  f0 := R.f0
  fn := R.fn
  dm := R.dm
  fr := R.fr
  gg := R.gg
  sl := fun j s e => by
    by_cases h : i = j
    · subst h
      have hl : i < ρ.length := by
        have := (List.getElem?_eq_some_iff.mp e).1
        rwa [List.length_set] at this
      rw [List.getElem?_set_self hl] at e
      cases e
      exact ⟨v, List.getElem?_set_self (by rw [← R.ln]; exact hl), r⟩
    · rw [List.getElem?_set_ne h] at e ⊢
      exact R.sl j s e
  dj := fun j k a ds es e1 e2 e3 e4 => by
    have n : ∀ {j : Nat} {ds : List D}, (ρ.set i (.val d))[j]? = some (.acc ds) → i ≠ j := fun e z => by
      subst z
      have hl : i < ρ.length := by
        have := (List.getElem?_eq_some_iff.mp e).1
        rwa [List.length_set] at this
      rw [List.getElem?_set_self hl] at e
      cases e
    have n1 := n e1
    have n2 := n e2
    rw [List.getElem?_set_ne n1] at e1 e3
    rw [List.getElem?_set_ne n2] at e2 e4
    exact R.dj j k a ds es e1 e2 e3 e4
  ln := by rw [List.length_set, List.length_set]; exact R.ln
@[simp] def wipeR (ρ : Rho) : List Nat → Rho
  | [] => ρ
  | v :: vs => (wipeR ρ vs).set v .no
theorem Rl.wipe1 {B : Bs} {F : Hp} {ρ : Rho} {g : G} {σ : L2.St} {H : Hp} (R : Rl B F ρ g σ H) (i : Nat) (o : Option V) : Rl B F (ρ.set i .no) g (σ.set i o) H where
  fh := R.fh
  f0 := R.f0
  fn := R.fn
  dm := R.dm
  fr := R.fr
  gg := R.gg
  sl := fun j s e => by
    by_cases h : i = j
    · subst h
      have hl : i < ρ.length := by
        have := (List.getElem?_eq_some_iff.mp e).1
        rwa [List.length_set] at this
      rw [List.getElem?_set_self hl] at e
      cases e
      trivial
    · rw [List.getElem?_set_ne h] at e ⊢
      exact R.sl j s e
  dj := fun j k a ds es e1 e2 e3 e4 => by
    have n : ∀ {j : Nat} {ds : List D}, (ρ.set i .no)[j]? = some (.acc ds) → i ≠ j := fun e z => by
      subst z
      have hl : i < ρ.length := by
        have := (List.getElem?_eq_some_iff.mp e).1
        rwa [List.length_set] at this
      rw [List.getElem?_set_self hl] at e
      cases e
    have n1 := n e1
    have n2 := n e2
    rw [List.getElem?_set_ne n1] at e1 e3
    rw [List.getElem?_set_ne n2] at e2 e4
    exact R.dj j k a ds es e1 e2 e3 e4
  ln := by rw [List.length_set, List.length_set]; exact R.ln
theorem Rl.wipe {B : Bs} {F : Hp} {ρ : Rho} {g : G} {σ : L2.St} {H : Hp} (R : Rl B F ρ g σ H) : ∀ vs : List Nat, Rl B F (wipeR ρ vs) g (L2.wipe σ vs) H
  | [] => R
  | v :: vs => (Rl.wipe R vs).wipe1 v none
theorem wipe_set {σ : L2.St} {o : Option V} {i : Nat} : ∀ {vs : List Nat}, i ∈ vs → L2.wipe (σ.set i o) vs = L2.wipe σ vs
  | v :: vs, h => by
    unfold L2.wipe
    by_cases hv : i ∈ vs
    · rw [wipe_set hv]
    · have e : i = v := by rcases List.mem_cons.mp h with z | z; exact z; exact absurd z hv
      subst e
      have : ∀ {ws : List Nat}, i ∉ ws → L2.wipe (σ.set i o) ws = (L2.wipe σ ws).set i o := fun {ws} => by
        induction ws with
        | nil => intro _; rfl
        | cons w ws ih =>
          intro hw
          unfold L2.wipe
          rw [ih (fun z => hw (List.mem_cons_of_mem _ z)), List.set_comm _ _ (fun z => hw (by rw [z]; exact List.mem_cons_self))]
      rw [this hv, List.set_set]
@[simp] def noAcc : Rho → Bool
  | [] => true
  | .acc _ :: _ => false
  | _ :: r => noAcc r
theorem noAcc_at : ∀ {ρ : Rho} {i : Nat} {ds : List D}, noAcc ρ = true → ρ[i]? ≠ some (.acc ds)
  | [], _, _, _ => by simp
  | s :: r, 0, ds, h => fun e => by
    have e' : s = .acc ds := Option.some.inj e
    subst e'
    cases h
  | s :: r, i + 1, ds, h => by
    have h' : noAcc r = true := by cases s <;> first | exact h | cases h
    exact noAcc_at (i := i) h'
/-- names' values alone: they last -/
theorem Rl.back {B : Bs} {F F' : Hp} {ρ ρ' : Rho} {g g' : G} {σ σ' : L2.St} {H H' : Hp} (R : Rl B F ρ g σ H) (R' : Rl B F' ρ' g' σ' H') (e : Same F F') (h : noAcc ρ = true) : Rl B F' ρ g' σ H' where
  fh := R'.fh
  f0 := R'.f0
  fn := R'.fn
  dm := R'.dm
  fr := R'.fr
  gg := R'.gg
  sl := fun i s z => by
    have q := R.sl i s z
    cases s with
    | no => trivial
    | val d => obtain ⟨v, e1, r⟩ := q; exact ⟨v, e1, r.mono e⟩
    | acc ds => exact absurd z (noAcc_at h)
  dj := fun i j a ds es z => absurd z (noAcc_at h)
  ln := R.ln

/-- .. own lists last as well, where no statement was done -/
theorem Rl.backA {B : Bs} {F F' : Hp} {ρ ρ' : Rho} {g g' : G} {σ σ' : L2.St} {H H' : Hp} (R : Rl B F ρ g σ H) (R' : Rl B F' ρ' g' σ' H') (k : Ste g H F g' H' F') : Rl B F' ρ g' σ H' where
  fh := R'.fh
  f0 := R'.f0
  fn := R'.fn
  dm := R'.dm
  fr := R'.fr
  gg := R'.gg
  sl := fun i s z => by
    have q := R.sl i s z
    cases s with
    | no => trivial
    | val d => obtain ⟨v, e1, r⟩ := q; exact ⟨v, e1, r.mono k.ff⟩
    | acc ds =>
      obtain ⟨a, xs, e1, h1, h2, h3, h4, h5⟩ := q
      obtain ⟨z1, z2⟩ := k.kp a _ h1 h4
      refine ⟨a, xs, e1, z1, h2.mono k.ff, ?_, z2, h5⟩
      cases y : F' a with
      | none => rfl
      | some u =>
        rcases k.fn a u y with w | w
        · rw [h3] at w; cases w
        · rw [h1] at w; cases w
  dj := R.dj
  ln := R.ln

/-- an untracked object of ours changes -/
theorem Rl.own_upd {B : Bs} {F : Hp} {ρ : Rho} {g : G} {σ : L2.St} {H : Hp} (R : Rl B F ρ g σ H) {p : Addr} {o : HO} (h0 : B.H0 p = none) (hg : g p = none) (hf : F p = none) (hs : ∀ (i : Nat) (es : List D), ρ[i]? = some (.acc es) → σ[i]? ≠ some (some (.ref p))) :
    Rl B F ρ g σ (upd H p o) where
  fh := fun a u e => by rw [upd_ne (ne_of_none e hf)]; exact R.fh a u e
  f0 := R.f0
  fn := R.fn
  dm := fun a u e => by rw [upd_ne (ne_of_none e h0)]; exact R.dm a u e
  fr := fun a u e n => by rw [upd_ne (ne_of_none e h0)]; exact R.fr a u e n
  gg := fun a u e => by
    obtain ⟨h1, h2, h3⟩ := R.gg a u e
    refine ⟨h1.heap (fun b w gb _ z => ?_) e, h2, h3⟩
    rw [upd_ne (fun y => by subst y; rw [hg] at gb; cases gb)]
    exact z
  sl := fun i s e => by
    have h := R.sl i s e
    cases s with
    | no => trivial
    | val d => exact h
    | acc ds =>
      obtain ⟨a, xs, e1, h1, h2⟩ := h
      refine ⟨a, xs, e1, ?_, h2⟩
      rw [upd_ne (fun y => by subst y; exact hs i ds e e1)]
      exact h1
  dj := R.dj
  ln := R.ln
theorem wipe_wipe {σ : L2.St} : ∀ {vs : List Nat}, L2.wipe (L2.wipe σ vs) vs = L2.wipe σ vs := fun {vs} => by
  apply List.ext_getElem?
  intro i
  by_cases h : i ∈ vs
  · have : ∀ (τ : L2.St) (ws : List Nat), i ∈ ws → (L2.wipe τ ws)[i]? = if i < τ.length then some none else none := fun τ ws => by
      induction ws with
      | nil => intro h; cases h
      | cons w ws ih =>
        intro h
        unfold L2.wipe
        by_cases e : w = i
        · subst e
          by_cases hl : w < τ.length
          · rw [if_pos hl, List.getElem?_set_self (by rw [wipe_length]; exact hl)]
          · rw [if_neg hl, List.getElem?_eq_none (by rw [List.length_set, wipe_length]; omega)]
        · rw [List.getElem?_set_ne e]
          exact ih (by rcases List.mem_cons.mp h with z | z; exact absurd z.symm e; exact z)
    rw [this _ vs h, this _ vs h, wipe_length]
  · rw [wipe_out h, wipe_out h]

/-! ### targets -/
inductive Tg where | nm (i : Nat) | tp (is : List Nat) | tn (l : List (Nat ⊕ List Nat))
def gNames : List Nat → TGs
  | [] => gNil
  | i :: r => gCons (gName i) (gNames r)
def gMix (K : PySem.W.Frag) : List (Nat ⊕ List Nat) → TGs
  | [] => gNil
  | .inl i :: r => gCons (gName i) (gMix K r)
  | .inr is :: r => gCons (gTup K is.length (gNames is)) (gMix K r)
def Tg.t (K : PySem.W.Frag) : Tg → TG
  | .nm i => gName i
  | .tp is => gTup K is.length (gNames is)
  | .tn l => gTup K l.length (gMix K l)
@[simp] def setR : List Nat → List D → Rho → Option Rho
  | [], [], ρ => some ρ
  | i :: is, d :: ds, ρ => setR is ds (ρ.set i (.val d))
  | _, _, _ => none
@[simp] def setM : List (Nat ⊕ List Nat) → List D → Rho → Option Rho
  | [], [], ρ => some ρ
  | .inl i :: r, d :: ds, ρ => setM r ds (ρ.set i (.val d))
  | .inr is :: r, .tup es :: ds, ρ => match setR is es ρ with | some ρ' => setM r ds ρ' | none => none
  | .inr is :: r, .ptp es :: ds, ρ => match setR is es ρ with | some ρ' => setM r ds ρ' | none => none
  | _, _, _ => none
@[simp] def Tg.bd : Tg → D → Rho → Option Rho
  | .nm i, d, ρ => some (ρ.set i (.val d))
  | .tp is, .tup ds, ρ => setR is ds ρ
  | .tp is, .ptp ds, ρ => setR is ds ρ
  | .tp _, _, _ => none
  | .tn l, .tup ds, ρ => setM l ds ρ
  | .tn l, .ptp ds, ρ => setM l ds ρ
  | .tn _, _, _ => none
def mixVs : List (Nat ⊕ List Nat) → List Nat
  | [] => []
  | .inl i :: r => i :: mixVs r
  | .inr is :: r => is ++ mixVs r
def Tg.vs : Tg → List Nat
  | .nm i => [i]
  | .tp is => is
  | .tn l => mixVs l
def EG (X : Cx) (tg : Expr) (τ : Tg) : Prop := PG X tg (τ.t X.K)
def EGs (X : Cx) (tg : List Expr) (is : List Nat) : Prop := PGs X tg (gNames is)
theorem eg_nm {i : Nat} {x : Str} (hN : X.N.Nodup) (hi : X.N[i]? = some x := by rfl) (hx : Loc X.env.scope x := by first | exact Or.inl rfl | exact Or.inr rfl) (hf : X.fn x = true ∨ X.env.scope.names.lookup x = some .local := by first | exact .inl rfl | exact .inr rfl | assumption) : EG X (.Name x pos) (.nm i) := pg_name hN hi hx hf
theorem egs_nil : EGs X [] [] := pgs_nil
theorem egs_cons {t : Expr} {ts : List Expr} {i : Nat} {is : List Nat} (h1 : EG X t (.nm i)) (h2 : EGs X ts is) (hs : (assignEach (t :: ts) X.env).map (·.2) = assign t X.env :: (assignEach ts X.env).map (·.2) := by rfl) : EGs X (t :: ts) (i :: is) := pgs_cons h1 h2 hs
theorem eg_tp {ts : List Expr} {k : Nat} {is : List Nat} (hc : X.calm = true) (h : EGs X ts is) (hn : (assignEach ts X.env).length = is.length := by rfl) (hst : (assignEach ts X.env).findIdx? (·.1) = none := by rfl) : EG X (.Tuple ts k pos) (.tp is) := pg_tup hc h hn hst
def EGm (X : Cx) (tg : List Expr) (l : List (Nat ⊕ List Nat)) : Prop := PGs X tg (gMix X.K l)
theorem egm_nil : EGm X [] [] := pgs_nil
theorem egm_nm {t : Expr} {ts : List Expr} {i : Nat} {l : List (Nat ⊕ List Nat)} (h1 : EG X t (.nm i)) (h2 : EGm X ts l) (hs : (assignEach (t :: ts) X.env).map (·.2) = assign t X.env :: (assignEach ts X.env).map (·.2) := by rfl) : EGm X (t :: ts) (.inl i :: l) := pgs_cons h1 h2 hs
theorem egm_tp {t : Expr} {ts : List Expr} {is : List Nat} {l : List (Nat ⊕ List Nat)} (h1 : EG X t (.tp is)) (h2 : EGm X ts l) (hs : (assignEach (t :: ts) X.env).map (·.2) = assign t X.env :: (assignEach ts X.env).map (·.2) := by rfl) : EGm X (t :: ts) (.inr is :: l) := pgs_cons h1 h2 hs
theorem eg_tn {ts : List Expr} {k : Nat} {l : List (Nat ⊕ List Nat)} (hc : X.calm = true) (h : EGm X ts l) (hn : (assignEach ts X.env).length = l.length := by rfl) (hst : (assignEach ts X.env).findIdx? (·.1) = none := by rfl) : EG X (.Tuple ts k pos) (.tn l) := pg_tup hc h hn hst
theorem setR_len {ρ' : Rho} : ∀ (is : List Nat) (ds : List D) (ρ : Rho), setR is ds ρ = some ρ' → ds.length = is.length
  | [], ds, ρ, e => by cases ds with | nil => rfl | cons d ds => cases e
  | i :: is, ds, ρ, e => by cases ds with | nil => cases e | cons d ds => simp [setR_len is ds _ e]
theorem setM_len {ρ' : Rho} : ∀ (l : List (Nat ⊕ List Nat)) (ds : List D) (ρ : Rho), setM l ds ρ = some ρ' → ds.length = l.length
  | [], ds, ρ, e => by cases ds with | nil => rfl | cons d ds => simp at e
  | .inl i :: l, ds, ρ, e => by cases ds with | nil => simp at e | cons d ds => simp at e; simp [setM_len l ds _ e]
  | .inr is :: l, ds, ρ, e => by
    cases ds with
    | nil => simp at e
    | cons d ds =>
      cases d with
      | tup es =>
        simp only [setM] at e
        split at e
        · simp [setM_len l ds _ e]
        · cases e
      | ptp es =>
        simp only [setM] at e
        split at e
        · simp [setM_len l ds _ e]
        · cases e
      | _ => simp at e
theorem names_w {B : Bs} {F : Hp} {g : G} {H : Hp} : ∀ (is : List Nat) (xs : List V) (ds : List D) (ρ ρ' : Rho) (σ : L2.St) (Q : L2.St → Hp → Prop), Rl B F ρ g σ H → RepL B.K F xs ds → setR is ds ρ = some ρ' →
    (∀ σ', Rl B F ρ' g σ' H → (∀ ws : List Nat, (∀ i ∈ is, i ∈ ws) → L2.wipe σ' ws = L2.wipe σ ws) → Q σ' H) → gNames is xs σ H Q
  | [], xs, ds, ρ, ρ', σ, Q, R, r, e, q => by
    cases ds with
    | nil =>
      cases r
      cases e
      exact ⟨rfl, q σ R fun _ _ => rfl⟩
    | cons d ds => cases e
  | i :: is, xs, ds, ρ, ρ', σ, Q, R, r, e, q => by
    cases ds with
    | nil => cases e
    | cons d ds =>
      cases r with
      | cons r1 r2 =>
        refine ⟨_, _, rfl, ?_⟩
        refine names_w is _ ds _ ρ' _ Q (R.set i r1) r2 e fun σ' R' hw => q σ' R' fun ws hi => ?_
        rw [hw ws fun j hj => hi j (List.mem_cons_of_mem _ hj)]
        exact wipe_set (hi i List.mem_cons_self)
theorem mix_w {B : Bs} {F : Hp} {g : G} {H : Hp} : ∀ (l : List (Nat ⊕ List Nat)) (xs : List V) (ds : List D) (ρ ρ' : Rho) (σ : L2.St) (Q : L2.St → Hp → Prop), Rl B F ρ g σ H → RepL B.K F xs ds → setM l ds ρ = some ρ' →
    (∀ σ', Rl B F ρ' g σ' H → (∀ ws : List Nat, (∀ i ∈ mixVs l, i ∈ ws) → L2.wipe σ' ws = L2.wipe σ ws) → Q σ' H) → gMix B.K l xs σ H Q
  | [], xs, ds, ρ, ρ', σ, Q, R, r, e, q => by
    cases ds with
    | nil =>
      cases r
      simp only [setM, Option.some.injEq] at e
      subst e
      exact ⟨rfl, q σ R fun _ _ => rfl⟩
    | cons d ds => simp at e
  | .inl i :: l, xs, ds, ρ, ρ', σ, Q, R, r, e, q => by
    cases ds with
    | nil => simp at e
    | cons d ds =>
      cases r with
      | cons r1 r2 =>
        simp only [setM] at e
        refine ⟨_, _, rfl, ?_⟩
        refine mix_w l _ ds _ ρ' _ Q (R.set i r1) r2 e fun σ' R' hw => q σ' R' fun ws hi => ?_
        rw [hw ws fun j hj => hi j (List.mem_cons_of_mem _ hj)]
        exact wipe_set (hi i List.mem_cons_self)
  | .inr is :: l, xs, ds, ρ, ρ', σ, Q, R, r, e, q => by
    cases ds with
    | nil => simp at e
    | cons d ds =>
      cases r with
      | cons r1 r2 =>
        rename_i vh vt
        refine ⟨_, _, rfl, ?_⟩
        have go : ∀ (es : List D) (ys : List V) (ρ1 : Rho), setR is es ρ = some ρ1 → setM l ds ρ1 = some ρ' → RepL B.K F ys es → gNames is ys σ H fun σ1 H1 => gMix B.K l vt σ1 H1 Q := by
          intro es ys ρ1 e1 e2 hr
          refine names_w is _ _ ρ ρ1 σ _ R hr e1 fun σ1 R1 hw1 => ?_
          refine mix_w l _ ds ρ1 ρ' σ1 Q R1 r2 e2 fun σ' R' hw => q σ' R' fun ws hi => ?_
          rw [hw ws fun j hj => hi j (List.mem_append_right _ hj), hw1 ws fun j hj => hi j (List.mem_append_left _ hj)]
        cases d with
        | tup es =>
          simp only [setM] at e
          split at e
          · rename_i ρ1 e1
            cases r1 with
            | tup hs hr => exact ⟨_, _, rfl, same_sqT R.fh hs.sqT, by rw [hr.length]; exact setR_len is _ ρ e1, go _ _ _ e1 e hr⟩
          · cases e
        | ptp es =>
          simp only [setM] at e
          split at e
          · rename_i ρ1 e1
            cases r1 with
            | ptp hs hr => exact ⟨_, _, rfl, same_sqT R.fh hs, by rw [hr.length]; exact setR_len is _ ρ e1, go _ _ _ e1 e hr⟩
          · cases e
        | _ => simp at e
theorem tg_w {B : Bs} {F : Hp} {ρ ρ' : Rho} {g : G} {σ : L2.St} {H : Hp} {τ : Tg} {v : V} {d : D} {Q : L2.St → Hp → Prop} (R : Rl B F ρ g σ H) (r : Rep B.K F v d) (e : τ.bd d ρ = some ρ')
    (q : ∀ σ', Rl B F ρ' g σ' H → (∀ ws : List Nat, (∀ i ∈ τ.vs, i ∈ ws) → L2.wipe σ' ws = L2.wipe σ ws) → Q σ' H) : τ.t B.K v σ H Q := by
  cases τ with
  | nm i =>
    cases e
    exact q _ (R.set i r) fun ws hi => wipe_set (hi i List.mem_cons_self)
  | tp is =>
    have len : ∀ (is : List Nat) (ds : List D) (ρ : Rho), setR is ds ρ = some ρ' → ds.length = is.length := fun is => by
        induction is with
        | nil => intro ds ρ e; cases ds with | nil => rfl | cons d ds => cases e
        | cons i is ih => intro ds ρ e; cases ds with | nil => cases e | cons d ds => simp [ih ds _ e]
    cases r with
    | tup hs hr => exact ⟨_, _, rfl, same_sqT R.fh hs.sqT, by rw [hr.length]; exact len is _ ρ e, names_w is _ _ ρ ρ' σ Q R hr e q⟩
    | ptp hs hr => exact ⟨_, _, rfl, same_sqT R.fh hs, by rw [hr.length]; exact len is _ ρ e, names_w is _ _ ρ ρ' σ Q R hr e q⟩
    | _ => cases e
  | tn l =>
    cases r with
    | tup hs hr => exact ⟨_, _, rfl, same_sqT R.fh hs.sqT, by rw [hr.length]; exact setM_len l _ ρ e, mix_w l _ _ ρ ρ' σ Q R hr e q⟩
    | ptp hs hr => exact ⟨_, _, rfl, same_sqT R.fh hs, by rw [hr.length]; exact setM_len l _ ρ e, mix_w l _ _ ρ ρ' σ Q R hr e q⟩
    | _ => cases e

/-! ### what is walked -/
structure WalkD (K : PySem.W.Frag) (J : It) (F : Hp) (ds : List D) : Prop where
  goes : ∀ i H, i < ds.length → Same F H → J.go i H
  stops : ∀ H, Same F H → J.stop ds.length H
  yields : ∀ i H F1 x H', i < ds.length → Same F F1 → Same F1 H → J.yld i H x H' → ∃ d F', ds[i]? = some d ∧ Gro F1 H F' H' ∧ Rep K F' x d
theorem WalkD.mono {K : PySem.W.Frag} {J : It} {F F' : Hp} {ds : List D} (w : WalkD K J F ds) (e : Same F F') : WalkD K J F' ds :=
  ⟨fun i H h q => w.goes i H h (e.trans q), fun H q => w.stops H (e.trans q), fun i H F1 x H' h q1 q2 => w.yields i H F1 x H' h (e.trans q1) q2⟩
def iD (B : Bs) (W : Wi) (m : EM (List D)) : TI := fun σ H R => ∃ F ρ g QD, Rl B F ρ g σ H ∧ m ρ g QD (fun x g' => W x ρ g') ∧
  ∀ J H' F' g' ds, Ste g H F g' H' F' → Rl B F' ρ g' σ H' → WalkD B.K J F' ds → QD ds g' → R J H'
def EI (X : Cx) (tg iter : Expr) (m : EM (List D)) : Prop := ∀ B W, B.K = X.K → Lk X B W → PI X tg iter (iD B W m)
@[simp] def seqOf : D → Option (List D)
  | .tup ds => some ds
  | .ptp ds => some ds
  | .lst ds => some ds
  | _ => none
/-- what is walked -/
@[simp] def seqIt : D → Option (List D)
  | .tup ds => some ds
  | .ptp ds => some ds
  | .lst ds => some ds
  | .str z => some (z.cps.toList.map fun c => .str ⟨#[c]⟩)
  | _ => none
@[simp] def iSeq (m : EM D) : EM (List D) := fun ρ g Q E => m ρ g (fun d g1 => match seqIt d with | some ds => Q ds g1 | none => False) E
theorem pi_mono {X : Cx} {tg e : Expr} {t t' : TI} (h : PI X tg e t) (w : ∀ σ H Q, t' σ H Q → t σ H Q) : PI X tg e t' := ⟨fun pins s σ H Q I q => h.run pins s σ H Q I (w _ _ _ q)⟩
def iLT (K : PySem.W.Frag) (tl : TE) : TI := fun σ H R => tl σ H fun x H1 => (∃ a, x = .ref a ∧ (((∃ xs, SqL K H1 a xs) ∧ R (Itl K a) H1) ∨ ((∃ xs, SqT K H1 a xs) ∧ R (Itt K a) H1))) ∨ ∃ z, x = .str z ∧ R (Its z) H1
theorem pi_lt {tg l : Expr} {tl : TE} (hl : PE X l tl) : PI X tg l (iLT X.K tl) := by
  refine ⟨fun pins s σ H R I h => ?_⟩
  refine thn (hl.run pins s σ H _ I h) fun v s1 ⟨x, H1, I1, r1, q1⟩ => ?_
  rcases q1 with ⟨a, e, h2⟩ | ⟨z, rfl, q⟩
  case inr =>
    obtain ⟨t, rfl⟩ := r1
    cases nar : z.cps.all (· < 128) with
    | true => exact wpAny_pyIter_ascii nar (pi_one (tk := s1.toks) I1 _ (turn_str _ z t "str_ascii_iterator" (Or.inl rfl)) ⟨_, Heap.get?_push_size _ rfl, rfl, rfl⟩ q)
    | false => exact wpAny_pyIter_wide nar (pi_one (tk := s1.toks) I1 _ (turn_str _ z t "str_iterator" (Or.inr rfl)) ⟨_, Heap.get?_push_size _ rfl, rfl, rfl⟩ q)
  subst e
  cases r1
  rcases h2 with ⟨⟨xs, hq⟩, q⟩ | ⟨⟨xs, hq⟩, q⟩
  · obtain ⟨its, rv, p, hz⟩ := I1.list hq
    refine wpAny_pyIter_list p.isList ?_
    refine ⟨s1.heap.objs.size, [s1.heap.objs.size], _, _, H1, rfl, I1.kept (t' := s1.toks) fun b o e => Heap.get?_push_of_some _ e, turn_list a _, ⟨_, Heap.get?_push_size _ rfl, rfl, rfl⟩, fun b hb => ?_, q⟩
    have e : b = s1.heap.objs.size := by simpa using hb
    subst e
    exact I1.fpOk (Nat.le_refl _) (I1.hok.fresh (Nat.le_refl _))
  · obtain ⟨its, rv, p, hz⟩ := I1.tuple hq
    refine wpAny_pyIter_tuple (show s1.heap.IsTuple a its.toArray from p) ?_
    refine ⟨s1.heap.objs.size, [s1.heap.objs.size], _, _, H1, rfl, I1.kept (t' := s1.toks) fun b o e => Heap.get?_push_of_some _ e, turn_tuple a _, ⟨_, Heap.get?_push_size _ rfl, rfl, rfl⟩, fun b hb => ?_, q⟩
    have e : b = s1.heap.objs.size := by simpa using hb
    subst e
    exact I1.fpOk (Nat.le_refl _) (I1.hok.fresh (Nat.le_refl _))
theorem ei_seq {tg l : Expr} (hl : EV X l m) : EI X tg l (iSeq m) := by
  intro B W hB L
  refine pi_mono (pi_lt (hl B W hB L)) ?_
  rintro σ H Q ⟨F, ρ, g, QD, R, w, q⟩
  refine ⟨F, ρ, g, _, R, w, ?_⟩
  intro v1 H1 F1 g1 d1 k1 R1 r1 w1
  cases r1 with
  | tup hs hr =>
    have hs := hs.sqT
    rw [hB] at hs
    refine .inl ⟨_, rfl, .inr ⟨⟨_, same_sqT R1.fh hs⟩, q _ H1 F1 g1 _ k1 R1 ?_ w1⟩⟩
    refine ⟨fun i H h z => walk_tup.goes i H (by rw [hr.length]; exact h) (same_sqT z hs), fun H z => by rw [← hr.length]; exact walk_tup.stops H (same_sqT z hs), fun i H F2 x H' h z z2 y => ?_⟩
    obtain ⟨e, hx⟩ := walk_tup.yields i H x H' (by rw [hr.length]; exact h) (same_sqT (z.trans z2) hs) y
    obtain ⟨d, hd, rd⟩ := hr.getV hx
    exact ⟨d, F2, hd, by rw [e]; exact Gro.refl z2, rd.mono z⟩
  | ptp hs hr =>
    rw [hB] at hs
    refine .inl ⟨_, rfl, .inr ⟨⟨_, same_sqT R1.fh hs⟩, q _ H1 F1 g1 _ k1 R1 ?_ w1⟩⟩
    refine ⟨fun i H h z => walk_tup.goes i H (by rw [hr.length]; exact h) (same_sqT z hs), fun H z => by rw [← hr.length]; exact walk_tup.stops H (same_sqT z hs), fun i H F2 x H' h z z2 y => ?_⟩
    obtain ⟨e, hx⟩ := walk_tup.yields i H x H' (by rw [hr.length]; exact h) (same_sqT (z.trans z2) hs) y
    obtain ⟨d, hd, rd⟩ := hr.getV hx
    exact ⟨d, F2, hd, by rw [e]; exact Gro.refl z2, rd.mono z⟩
  | lst hs hr =>
    rw [hB] at hs
    refine .inl ⟨_, rfl, .inl ⟨⟨_, R1.fh.seq hs⟩, q _ H1 F1 g1 _ k1 R1 ?_ w1⟩⟩
    refine ⟨fun i H h z => walk_list.goes i H (by rw [hr.length]; exact h) (z.seq hs), fun H z => by rw [← hr.length]; exact walk_list.stops H (z.seq hs), fun i H F2 x H' h z z2 y => ?_⟩
    obtain ⟨e, hx⟩ := walk_list.yields i H x H' (by rw [hr.length]; exact h) ((z.trans z2).seq hs) y
    obtain ⟨d, hd, rd⟩ := hr.getV hx
    exact ⟨d, F2, hd, by rw [e]; exact Gro.refl z2, rd.mono z⟩
  | str z =>
    refine .inr ⟨z, rfl, q _ H1 F1 g1 _ k1 R1 ?_ w1⟩
    refine ⟨fun i H h _ => ?_, fun H _ => ?_, fun i H F2 x H' h _ z2 y => ?_⟩
    · have h' : i < (z.cps.toList.map fun c => D.str ⟨#[c]⟩).length := h
      show i < z.cps.size
      simpa using h'
    · show z.cps.size ≤ (z.cps.toList.map fun c => D.str ⟨#[c]⟩).length
      simp
    · obtain ⟨rfl, c, hc, rfl⟩ := y
      refine ⟨.str ⟨#[c]⟩, F2, ?_, Gro.refl z2, .str _⟩
      rw [List.getElem?_map, Array.getElem?_toList, hc]
      rfl
  | _ => exact w1.elim
/-- range(a, b) -/
def rngD (lo : Int) (n : Nat) : List D := (List.range n).map fun (i : Nat) => .int (lo + (i : Int))
def iRg1 (ms : EM (List D)) : EM (List D) := fun ρ g Q E => ms ρ g (fun xs g1 => match xs with | [.int j] => -(2 ^ 62) ≤ j ∧ j < 2 ^ 62 ∧ Q (rngD 0 j.toNat) g1 | _ => False) E
def iRg2 (ms : EM (List D)) : EM (List D) := fun ρ g Q E => ms ρ g (fun xs g1 => match xs with | [.int i, .int j] => (-(2 ^ 62) ≤ i ∧ i < 2 ^ 62 ∧ -(2 ^ 62) ≤ j ∧ j < 2 ^ 62) ∧ Q (rngD i (j - i).toNat) g1 | _ => False) E
theorem rngD_length {lo : Int} {n : Nat} : (rngD lo n).length = n := by simp [rngD]
theorem walk_rg {K : PySem.W.Frag} {F : Hp} {lo : Int} {n : Nat} : WalkD K (Itr lo n) F (rngD lo n) := by
  refine ⟨fun i H h _ => by rw [rngD_length] at h; exact h, fun H _ => by rw [rngD_length]; exact Nat.le_refl _, fun i H F1 x H' h _ z y => ?_⟩
  obtain ⟨rfl, rfl⟩ := y
  rw [rngD_length] at h
  exact ⟨.int (lo + i), F1, by simp [rngD, h], Gro.refl z, .int _⟩
theorem ei_rg1 {tg a : Expr} {p : Pos} (hg : Gl X "range") (hm : X.mg "range" = none) (ha : EVs X [a] ms) (hs : starEach [a] X.env = [(false, eval a X.env)] := by rfl) : EI X tg (.Call (.Name "range" p) [a] [] pos) (iRg1 ms) := by
  intro B W hB L
  refine pi_mono (pi_range1 hg hm (ha B W hB L) hs) ?_
  rintro σ H Q ⟨F, ρ, g, QD, R, w, q⟩
  refine ⟨F, ρ, g, _, R, w, ?_⟩
  intro vs H1 F1 g1 ds k1 R1 r1 w1
  split at w1
  · rename_i j
    cases r1 with
    | cons r rr =>
      cases rr
      exact ⟨j, by rw [r.int_inv], w1.1, w1.2.1, q _ H1 F1 g1 _ k1 R1 walk_rg w1.2.2⟩
  · exact w1.elim
theorem ei_rg2 {tg a b : Expr} {p : Pos} (hg : Gl X "range") (hm : X.mg "range" = none) (ha : EVs X [a, b] ms) (hs : starEach [a, b] X.env = [(false, eval a X.env), (false, eval b X.env)] := by rfl) (hs2 : starEach [b] X.env = [(false, eval b X.env)] := by rfl) : EI X tg (.Call (.Name "range" p) [a, b] [] pos) (iRg2 ms) := by
  intro B W hB L
  refine pi_mono (pi_range2 hg hm (ha B W hB L) hs hs2) ?_
  rintro σ H Q ⟨F, ρ, g, QD, R, w, q⟩
  refine ⟨F, ρ, g, _, R, w, ?_⟩
  intro vs H1 F1 g1 ds k1 R1 r1 w1
  split at w1
  · rename_i i j
    cases r1 with
    | cons r rr =>
      cases rr with
      | cons r' rr =>
        cases rr
        exact ⟨i, j, by rw [r.int_inv, r'.int_inv], w1.1, q _ H1 F1 g1 _ k1 R1 walk_rg w1.2⟩
  · exact w1.elim

/-! ### comprehensions -/
def ETs (X : Cx) (ifs : List Expr) (m : EM Bool) : Prop := ∀ B W, B.K = X.K → Lk X B W → PTs X ifs (tT B W m)
@[simp] def tTrue : EM Bool := fun _ g Q _ => Q true g
theorem pts_mono {X : Cx} {e : List Expr} {t t' : TT} (h : PTs X e t) (w : ∀ σ H Q, t' σ H Q → t σ H Q) : PTs X e t' := ⟨fun pins s σ H Q I q => h.run pins s σ H Q I (w _ _ _ q)⟩
theorem ets_nil : ETs X [] tTrue := by
  intro B W hB L
  refine pts_mono pts_nil ?_
  rintro σ H Q ⟨F, ρ, g, QD, R, w, q⟩
  exact q true H F g Ste.refl R w
theorem ets_one (h : ET X c mt) : ETs X [c] mt := fun B W hB L => pts_one (h B W hB L)
/-- a comprehension's turns -/
def lcGo (τ : Tg) (mt : EM Bool) (me : EM D) (ρ : Rho) : List D → List D → G → (List D → G → Prop) → Prop
  | [], acc, g, Q => Q acc g
  | d :: ds, acc, g, Q => match τ.bd d ρ with
    | none => False
    | some ρ' => mt ρ' g (fun k g1 => if k = true then me ρ' g1 (fun y g2 => lcGo τ mt me ρ ds (acc ++ [y]) g2 Q) (fun _ _ => False) else lcGo τ mt me ρ ds acc g1 Q) (fun _ _ => False)
def nLc (mi : EM (List D)) (τ : Tg) (mt : EM Bool) (me : EM D) (own : List Nat) : EM (List D) := fun ρ g Q E => mi ρ g (fun ds g1 => ds.length ≤ sizeLine ∧ lcGo τ mt me (wipeR ρ own) ds [] g1 Q) E
theorem noAcc_wipe {ρ : Rho} (h : noAcc ρ = true) : ∀ vs : List Nat, noAcc (wipeR ρ vs) = true
  | [] => h
  | v :: vs => by
    have : ∀ (ρ : Rho) (v : Nat), noAcc ρ = true → noAcc (ρ.set v .no) = true := fun ρ => by
      induction ρ with
      | nil => intro v _; rfl
      | cons s r ih =>
        intro v h
        have h' : noAcc r = true := by cases s <;> first | exact h | cases h
        cases v with
        | zero => exact h'
        | succ v =>
          have := ih v h'
          cases s <;> first | exact this | cases h
    exact this _ v (noAcc_wipe h vs)
theorem lc_w {B : Bs} {W : Wi} {τ : Tg} {mi : EM (List D)} {me : EM D} {vs : List Nat} (hv : ∀ i ∈ τ.vs, i ∈ vs) : ∀ σ H Q, tN B W (nLc mi τ mt me vs) σ H Q → tLc (iD B W mi) (τ.t B.K) (tT B (fun _ _ _ => False) mt) (tE B (fun _ _ _ => False) me) vs σ H Q := by
  rintro σ H Q ⟨F, ρ, g, QD, R, w, q⟩
  refine ⟨F, ρ, g, _, R, w, ?_⟩
  intro J H1 F1 g1 ds k1 R1 wk ⟨hz, w1⟩ Dd hD
  -- the invariant
  refine ⟨fun i m Hi => m = ds.length - i ∧ i ≤ ds.length ∧ ∃ Fi gi acc ys, Rl B Fi (wipeR ρ vs) gi (L2.wipe σ vs) Hi ∧ Ste g1 H1 F1 gi Hi Fi ∧ Hi Dd = some (.lst ys) ∧ RepL B.K Fi ys acc ∧ Fi Dd = none ∧ gi Dd = none ∧ acc.length ≤ i ∧
    lcGo τ mt me (wipeR ρ vs) (ds.drop i) acc gi QD, ⟨ds.length, by simp, Nat.zero_le _, F1, g1, [], [], ?_, ?_, upd_same, .nil, R1.fh.free hD, R1.fresh_g hD, Nat.le_refl _, w1⟩, ?_⟩
  · exact (R1.wipe vs).gro (Gro.lay0 R1.fh hD)
  · exact (Gro.lay0 R1.fh hD).ste
  rintro i m Hi ⟨rfl, hi, Fi, gi, acc, ys, Ri, ki, hDi, ri, fD, gD, hl, wi⟩
  by_cases hlt : i < ds.length
  · refine .inr ⟨wk.goes i Hi hlt (ki.ff.trans Ri.fh), fun H' => ∃ Fi gi acc ys, Rl B Fi (wipeR ρ vs) gi (L2.wipe σ vs) H' ∧ Ste g1 H1 F1 gi H' Fi ∧ H' Dd = some (.lst ys) ∧ RepL B.K Fi ys acc ∧ Fi Dd = none ∧ gi Dd = none ∧ acc.length ≤ i + 1 ∧
      lcGo τ mt me (wipeR ρ vs) (ds.drop (i + 1)) acc gi QD, fun H' h => ⟨ds.length - (i + 1), by omega, rfl, hlt, h⟩, fun x H' y => ?_⟩
    obtain ⟨d, Fy, hd, Gy, ry⟩ := wk.yields i Hi Fi x H' hlt ki.ff Ri.fh y
    have hdrop : ds.drop i = d :: ds.drop (i + 1) := by
      rw [List.drop_eq_getElem_cons hlt]
      rw [List.getElem?_eq_getElem hlt] at hd
      rw [Option.some.inj hd]
    rw [hdrop] at wi
    unfold lcGo at wi
    have Ry := Ri.gro Gy
    have dead : ∀ {g' : G} {H' F' : Hp}, Ste gi Hi Fi g' H' F' → H' Dd = some (.lst ys) ∧ g' Dd = none ∧ F' Dd = none := fun {g' H' F'} k => by
      obtain ⟨z1, z2⟩ := k.kp Dd _ hDi gD
      refine ⟨z1, z2, ?_⟩
      cases z : F' Dd with
      | none => rfl
      | some u =>
        rcases k.fn Dd u z with z' | z'
        · rw [fD] at z'; cases z'
        · rw [hDi] at z'; cases z'
    cases hb : τ.bd d (wipeR ρ vs) with
    | none => rw [hb] at wi; exact wi.elim
    | some ρ' =>
      rw [hb] at wi
      refine tg_w Ry ry hb fun σ2 R2 hw => ⟨?_, ?_⟩
      · rw [hw vs hv, wipe_wipe]
      refine ⟨Fy, ρ', gi, _, R2, wi, ?_⟩
      intro k H3 F3 g3 k3 R3 w3
      have k13 : Ste gi Hi Fi g3 H3 F3 := Gy.ste.trans k3
      cases k with
      | false =>
        rw [if_neg Bool.false_ne_true] at w3 ⊢
        obtain ⟨hD3, gD3, fD3⟩ := dead k13
        exact ⟨F3, g3, acc, ys, Ri.backA R3 k13, ki.trans k13, hD3, ri.mono k13.ff, fD3, gD3, by omega, w3⟩
      | true =>
        rw [if_pos rfl] at w3 ⊢
        refine ⟨F3, ρ', g3, _, R3, w3, ?_⟩
        intro v4 H4 F4 g4 d4 k4 R4 r4 w4
        have k14 := k13.trans k4
        obtain ⟨hD4, gD4, fD4⟩ := dead k14
        refine ⟨ys, hD4, by rw [ri.length]; omega, F4, g4, acc ++ [d4], ys ++ [v4], ?_, ?_, upd_same, (ri.mono k14.ff).append (.one r4), fD4, gD4, by simp; omega, w4⟩
        · exact (Ri.backA R4 k14).own_upd (R1.fresh_0 hD) gD4 fD4 ((R1.wipe vs).fresh_s hD)
        · refine ⟨(ki.trans k14).ff, fun a o e n => ?_, fun a o e => ?_, (ki.trans k14).fn⟩
          · rw [upd_ne (ne_of_none e hD)]
            exact (ki.trans k14).kp a o e n
          · rw [upd_ne (ne_of_none e hD)]
            exact (ki.trans k14).dm a o e
  · have e : i = ds.length := by omega
    subst e
    rw [List.drop_length] at wi
    refine .inl ⟨wk.stops Hi (ki.ff.trans Ri.fh), ?_⟩
    exact q Dd ys Hi Fi gi acc (k1.trans ki) (R1.backA Ri ki) (k1.none hD) hDi fD gD (R1.fresh_0 hD) (R1.fresh_s hD) ri wi
theorem en_lc {elt tg iter : Expr} {ifs : List Expr} {scope : Scope} {own : List (Str × Nat)} {τ : Tg} {mi : EM (List D)} {me : EM D} (hc : X.calm = true) (hN : X.N.Nodup) (hi : EI X tg iter mi) (ok : BlkOk X.N X.env.scope scope own)
    (hg : ∀ (s : Shared) (H : Hp) (C : Addr) (cl : List (Str × Addr)) (fp : List Addr), EG (X.blk s H scope (compEnvC scope cl C X.env) fp) tg τ) (ht : ∀ (s : Shared) (H : Hp) (C : Addr) (cl : List (Str × Addr)) (fp : List Addr), ETs (X.blk s H scope (compEnvC scope cl C X.env) fp) ifs mt)
    (he : ∀ (s : Shared) (H : Hp) (C : Addr) (cl : List (Str × Addr)) (fp : List Addr), EV (X.blk s H scope (compEnvC scope cl C X.env) fp) elt me) (hv : ∀ i ∈ τ.vs, i ∈ own.map (·.2) := by decide) (hs : ∀ x, foldedSetIterable iter X.env x = pure x := by intro _; rfl) :
    EN X (.ListComp elt [⟨tg, iter, ifs, 0⟩] scope pos) (nLc mi τ mt me (own.map (·.2))) := by
  intro B W hB L
  exact pe_mono (pe_lc (g := τ.t B.K) hc hN (hi B W hB L) ok (fun s H C cl fp => by rw [hB]; exact hg s H C cl fp) (fun s H C cl fp => ht s H C cl fp B (fun _ _ _ => False) hB lk_false) (fun s H C cl fp => he s H C cl fp B (fun _ _ _ => False) hB lk_false) hs) (lc_w hv)
end
end DL

set_option Elab.async false
set_option linter.all false
set_option maxRecDepth 100000
/-! DL6: statements, a def's worth. -/
namespace DL
open PySem PySem.Spec PyProof.Rows L2

structure SE where
  nx : Rho → G → Prop
  rt : D → G → Prop
  bk : Rho → G → Prop := fun _ _ => False
  ct : Rho → G → Prop := fun _ _ => False
  /-- what was tracked when the def began -/
  g0 : G
abbrev SM := SE → Wi → Rho → G → Prop
structure EndOk (B : Bs) (F : Hp) (DD : SE) (D : Ends) : Prop where
  nx : ∀ σ' H' F' ρ' g', Same F F' → Rl B F' ρ' g' σ' H' → DD.nx ρ' g' → D.nx σ' H'
  rt : ∀ v σ' H' F' ρ' g' d, Rl B F' ρ' g' σ' H' → Rep B.K F' v d → DD.rt d g' → D.rt v H'
  bk : ∀ σ' H' F' ρ' g', Same F F' → Rl B F' ρ' g' σ' H' → DD.bk ρ' g' → D.bk σ' H'
  ct : ∀ σ' H' F' ρ' g', Same F F' → Rl B F' ρ' g' σ' H' → DD.ct ρ' g' → D.ct σ' H'
  gz : DD.g0 = B.g0
theorem EndOk.mono {B : Bs} {F F' : Hp} {DD : SE} {D : Ends} (h : EndOk B F DD D) (e : Same F F') : EndOk B F' DD D :=
  ⟨fun σ' H' F' ρ' g' z => h.nx σ' H' F' ρ' g' (e.trans z), h.rt, fun σ' H' F' ρ' g' z => h.bk σ' H' F' ρ' g' (e.trans z), fun σ' H' F' ρ' g' z => h.ct σ' H' F' ρ' g' (e.trans z), h.gz⟩
def tS (B : Bs) (W : Wi) (m : SM) : TS := fun D σ H => ∃ F ρ g DD, Rl B F ρ g σ H ∧ m DD W ρ g ∧ EndOk B F DD D
def SV (X : Cx) (st : Stmt) (m : SM) : Prop := ∀ B W, B.K = X.K → Lk X B W → PS X st (tS B W m)
def SVs (X : Cx) (st : List Stmt) (m : SM) : Prop := ∀ B W, B.K = X.K → Lk X B W → PSs X st (tS B W m)

section
variable {X : Cx} {a b c e : Expr} {es rest : List Expr} {ma mb mc m : EM D} {ms : EM (List D)} {mt mu : EM Bool} {pos : Pos} {st : Stmt} {sts : List Stmt} {n n' : SM}

@[simp] def sNext : SM := fun DD _ ρ g => DD.nx ρ g
@[simp] def sSeq (n n' : SM) : SM := fun DD W ρ g => n { DD with nx := n' DD W } W ρ g
theorem svs_nil : SVs X [] sNext := by
  intro B W hB L
  refine pss_mono pss_nil ?_
  rintro D σ H ⟨F, ρ, g, DD, R, w, q⟩
  exact q.nx σ H F ρ g (Same.refl F) R w
theorem svs_cons (h1 : SV X st n) (h2 : SVs X sts n') : SVs X (st :: sts) (sSeq n n') := by
  intro B W hB L
  refine pss_mono (pss_cons (h1 B W hB L) (h2 B W hB L)) ?_
  rintro D σ H ⟨F, ρ, g, DD, R, w, q⟩
  exact ⟨F, ρ, g, _, R, w, fun σ' H' F' ρ' g' e R' w' => ⟨F', ρ', g', DD, R', w', q.mono e⟩, q.rt, q.bk, q.ct, q.gz⟩
theorem svs_one (h1 : SV X st n) : SVs X [st] n := fun B W hB L => pss_one (h1 B W hB L)
theorem sv_pass : SV X (.Pass pos) sNext := by
  intro B W hB L
  refine ps_mono ps_pass ?_
  rintro D σ H ⟨F, ρ, g, DD, R, w, q⟩
  exact q.nx σ H F ρ g (Same.refl F) R w
@[simp] def sBreak : SM := fun DD _ ρ g => DD.bk ρ g
@[simp] def sCont : SM := fun DD _ ρ g => DD.ct ρ g
theorem sv_break : SV X (.Break pos) sBreak := by
  intro B W hB L
  refine ps_mono ps_break ?_
  rintro D σ H ⟨F, ρ, g, DD, R, w, q⟩
  exact q.bk σ H F ρ g (Same.refl F) R w
theorem sv_cont : SV X (.Continue pos) sCont := by
  intro B W hB L
  refine ps_mono ps_continue ?_
  rintro D σ H ⟨F, ρ, g, DD, R, w, q⟩
  exact q.ct σ H F ρ g (Same.refl F) R w
@[simp] def sNever : SM := fun _ _ _ _ => False
theorem sv_never : SV X st sNever := by
  intro B W hB L
  refine ps_mono ps_never ?_
  rintro D σ H ⟨F, ρ, g, DD, R, w, q⟩
  exact w.elim
@[simp] def sDrop (m : EM D) : SM := fun DD W ρ g => m ρ g (fun _ g' => DD.nx ρ g') (fun x g' => W x ρ g')
theorem sv_expr (he : EV X e m) (hs : swapsWith e none pos.line X.env = pure false := by rfl) : SV X (.Expr e pos) (sDrop m) := by
  intro B W hB L
  refine ps_mono (ps_expr (he B W hB L) hs) ?_
  rintro D σ H ⟨F, ρ, g, DD, R, w, q⟩
  exact ⟨F, ρ, g, _, R, w, fun v H' F' g' d k R' r w' => q.nx σ H' F' ρ g' k.ff R' w'⟩
/-- own lists are handed out with the answer -/
@[simp] def sRet (m : EM D) : SM := fun DD W ρ g => m (thaw ρ) g DD.rt (fun x g' => W x (thaw ρ) g')
theorem sv_ret (he : EV X e m) : SV X (.Return (some e) pos) (sRet m) := by
  intro B W hB L
  refine ps_mono (ps_ret (he B W hB L)) ?_
  rintro D σ H ⟨F, ρ, g, DD, R, w, q⟩
  exact ⟨_, _, g, _, R.thaw, w, fun v H' F' g' d k R' r w' => q.rt v σ H' F' _ g' d R' r w'⟩
@[simp] def sRetN : SM := fun DD _ _ g => DD.rt .non g
theorem sv_retN : SV X (.Return none pos) sRetN := by
  intro B W hB L
  refine ps_mono ps_retN ?_
  rintro D σ H ⟨F, ρ, g, DD, R, w, q⟩
  exact q.rt _ σ H F ρ g _ R .non w
@[simp] def sIf (t : EM Bool) (n n' : SM) : SM := fun DD W ρ g => t ρ g (fun k g' => if k = true then n DD W ρ g' else n' DD W ρ g') (fun x g' => W x ρ g')
theorem sv_if {sa sb : List Stmt} (hc : ET X c mt) (ha : SVs X sa n) (hb : SVs X sb n') : SV X (.If c sa sb pos) (sIf mt n n') := by
  intro B W hB L
  refine ps_mono (ps_if (hc B W hB L) (ha B W hB L) (hb B W hB L)) ?_
  rintro D σ H ⟨F, ρ, g, DD, R, w, q⟩
  refine ⟨F, ρ, g, _, R, w, fun k H' F' g' s R' w' => ?_⟩
  cases k with
  | true =>
    rw [if_pos rfl] at w' ⊢
    exact ⟨F', ρ, g', DD, R', w', q.mono s.ff⟩
  | false =>
    rw [if_neg Bool.false_ne_true] at w' ⊢
    exact ⟨F', ρ, g', DD, R', w', q.mono s.ff⟩
@[simp] def sSet (i : Nat) (m : EM D) : SM := fun DD W ρ g => m ρ g (fun d g' => DD.nx (ρ.set i (.val d)) g') (fun x g' => W x ρ g')
theorem sv_set {i : Nat} {x : Str} {pos' : Pos} (hN : X.N.Nodup) (he : EV X e m) (hi : X.N[i]? = some x := by rfl) (hx : Loc X.env.scope x := by first | exact Or.inl rfl | exact Or.inr rfl) (hs : swapsWith e (some (.Name x pos')) pos.line X.env = pure false := by rfl) (hf : X.fn x = true ∨ X.env.scope.names.lookup x = some .local := by first | exact .inl rfl | exact .inr rfl | assumption) :
    SV X (.Assign [.Name x pos'] e pos) (sSet i m) := by
  intro B W hB L
  refine ps_mono (ps_set (i := i) hN hi hx (he B W hB L) hs hf) ?_
  rintro D σ H ⟨F, ρ, g, DD, R, w, q⟩
  exact ⟨F, ρ, g, _, R, w, fun v H' F' g' d k R' r w' => q.nx _ H' F' _ g' k.ff (R'.set i r) w'⟩
/-- target = value -/
@[simp] def sAsg (τ : Tg) (m : EM D) : SM := fun DD W ρ g => m ρ g (fun d g' => match τ.bd d ρ with | some ρ' => DD.nx ρ' g' | none => False) (fun x g' => W x ρ g')
theorem sv_asg {tg : Expr} {τ : Tg} (hg : EG X tg τ) (he : EV X e m) (hs : swapsWithSole [tg] e pos.line X.env = pure false := by rfl) (hw : swappedStores [tg] e X.env = pure none := by rfl)
    (h1 : (assignEach [tg] X.env).map (·.2) = [assign tg X.env] := by rfl) : SV X (.Assign [tg] e pos) (sAsg τ m) := by
  intro B W hB L
  refine ps_mono (ps_asg (he B W hB L) hg hs hw h1) ?_
  rintro D σ H ⟨F, ρ, g, DD, R, w, q⟩
  refine ⟨F, ρ, g, _, R, w, fun v H' F' g' d k R' r w' => ?_⟩
  cases hb : τ.bd d ρ with
  | none => rw [hb] at w'; exact w'.elim
  | some ρ' =>
    rw [hb] at w'
    rw [← hB]
    exact tg_w R' r hb fun σ' R2 _ => q.nx σ' H' F' ρ' g' k.ff R2 w'
/-- name = a new list of its own -/
theorem Rl.setAcc {B : Bs} {F : Hp} {ρ : Rho} {g : G} {σ : L2.St} {H : Hp} (R : Rl B F ρ g σ H) (i : Nat) {p : Addr} {xs : List V} {ds : List D} (hp : H p = some (.lst xs)) (hf : F p = none) (hg : g p = none) (h0 : B.H0 p = none)
    (hs : ∀ (i : Nat) (es : List D), ρ[i]? = some (.acc es) → σ[i]? ≠ some (some (.ref p))) (r : RepL B.K F xs ds) : Rl B F (ρ.set i (.acc ds)) g (σ.set i (some (.ref p))) H := by
  have key : ∀ {j : Nat} {s : Sl}, (ρ.set i (.acc ds))[j]? = some s → (i = j ∧ i < ρ.length ∧ s = .acc ds) ∨ (i ≠ j ∧ ρ[j]? = some s) := fun {j s} e => by
    by_cases h : i = j
    · subst h
      have hl : i < ρ.length := by
        have := (List.getElem?_eq_some_iff.mp e).1
        rwa [List.length_set] at this
      rw [List.getElem?_set_self hl] at e
      exact .inl ⟨rfl, hl, (Option.some.inj e).symm⟩
    · rw [List.getElem?_set_ne h] at e
      exact .inr ⟨h, e⟩
  refine ⟨R.fh, R.f0, R.fn, R.dm, R.fr, R.gg, fun j s e => ?_, fun j k a ds' es e1 e2 e3 e4 => ?_, by rw [List.length_set, List.length_set]; exact R.ln⟩
  · rcases key e with ⟨rfl, hl, rfl⟩ | ⟨h, e'⟩
    · exact ⟨p, xs, List.getElem?_set_self (by rw [← R.ln]; exact hl), hp, r, hf, hg, h0⟩
    · rw [List.getElem?_set_ne h]
      exact R.sl j s e'
  · rcases key e1 with ⟨rfl, hl, _⟩ | ⟨h, e1'⟩
    · rcases key e2 with ⟨rfl, _, _⟩ | ⟨h', e2'⟩
      · rfl
      · rw [List.getElem?_set_self (by rw [← R.ln]; exact hl)] at e3
        rw [List.getElem?_set_ne h'] at e4
        cases e3
        exact absurd e4 (hs k es e2')
    · rcases key e2 with ⟨rfl, hl, _⟩ | ⟨h', e2'⟩
      · rw [List.getElem?_set_self (by rw [← R.ln]; exact hl)] at e4
        rw [List.getElem?_set_ne h] at e3
        cases e4
        exact absurd e3 (hs j ds' e1')
      · rw [List.getElem?_set_ne h] at e3
        rw [List.getElem?_set_ne h'] at e4
        exact R.dj j k a ds' es e1' e2' e3 e4
@[simp] def sSetN (i : Nat) (m : EM (List D)) : SM := fun DD W ρ g => m ρ g (fun ds g' => DD.nx (ρ.set i (.acc ds)) g') (fun x g' => W x ρ g')
theorem sv_setN {i : Nat} {x : Str} {pos' : Pos} (hN : X.N.Nodup) (he : EN X e ms) (hi : X.N[i]? = some x := by rfl) (hx : Loc X.env.scope x := by first | exact Or.inl rfl | exact Or.inr rfl) (hs : swapsWith e (some (.Name x pos')) pos.line X.env = pure false := by rfl) (hf : X.fn x = true ∨ X.env.scope.names.lookup x = some .local := by first | exact .inl rfl | exact .inr rfl | assumption) :
    SV X (.Assign [.Name x pos'] e pos) (sSetN i ms) := by
  intro B W hB L
  refine ps_mono (ps_set (i := i) hN hi hx (he B W hB L) hs hf) ?_
  rintro D σ H ⟨F, ρ, g, DD, R, w, q⟩
  exact ⟨F, ρ, g, _, R, w, fun p xs H' F' g' ds k R' hn hp hf hg h0 hs r w' => q.nx _ H' F' _ g' k.ff (R'.setAcc i hp hf hg h0 hs r) w'⟩

/-! ### loops -/
def forGo (τ : Tg) (n : SM) (DD : SE) (W : Wi) : List D → Rho → G → Prop
  | [], ρ, g => DD.nx ρ g
  | d :: ds, ρ, g => match τ.bd d ρ with
    | none => False
    | some ρ' => n { DD with nx := forGo τ n DD W ds, ct := forGo τ n DD W ds, bk := DD.nx } W ρ' g
@[simp] def sFor (mi : EM (List D)) (τ : Tg) (n : SM) : SM := fun DD W ρ g => mi ρ g (fun ds g' => forGo τ n DD W ds ρ g') (fun x g' => W x ρ g')
theorem for_w {B : Bs} {W : Wi} {J : It} {F1 : Hp} {ds : List D} {τ : Tg} {DD : SE} {D : Ends} (wk : WalkD B.K J F1 ds) (q : EndOk B F1 DD D) (σ : L2.St) (H : Hp) {ρ : Rho} {g : G} (R : Rl B F1 ρ g σ H) (w : forGo τ n DD W ds ρ g) :
    ∃ Wx : Nat → Nat → L2.St → Hp → Prop, (∃ m, Wx 0 m σ H) ∧ ∀ i m σ H, Wx i m σ H →
      (J.stop i H ∧ D.nx σ H) ∨ (J.go i H ∧ ∃ N : L2.St → Hp → Prop, (∀ σ' H', N σ' H' → ∃ m', m' < m ∧ Wx (i + 1) m' σ' H') ∧ ∀ x H', J.yld i H x H' → τ.t B.K x σ H' fun σ2 H2 => tS B W n { D with nx := N, ct := N, bk := D.nx } σ2 H2) := by
  refine ⟨fun i m σ H => m = ds.length - i ∧ i ≤ ds.length ∧ ∃ Fi ρi gi, Same F1 Fi ∧ Rl B Fi ρi gi σ H ∧ forGo τ n DD W (ds.drop i) ρi gi, ⟨ds.length, by simp, Nat.zero_le _, F1, ρ, g, Same.refl F1, R, w⟩, ?_⟩
  rintro i m σ H ⟨rfl, hi, Fi, ρi, gi, ei, Ri, wi⟩
  by_cases hlt : i < ds.length
  · refine .inr ⟨wk.goes i H hlt (ei.trans Ri.fh), fun σ' H' => ∃ Fi ρi gi, Same F1 Fi ∧ Rl B Fi ρi gi σ' H' ∧ forGo τ n DD W (ds.drop (i + 1)) ρi gi, fun σ' H' h => ⟨ds.length - (i + 1), by omega, rfl, hlt, h⟩, fun x H' y => ?_⟩
    obtain ⟨d, Fy, hd, Gy, ry⟩ := wk.yields i H Fi x H' hlt ei Ri.fh y
    have hdrop : ds.drop i = d :: ds.drop (i + 1) := by
      rw [List.drop_eq_getElem_cons hlt]
      rw [List.getElem?_eq_getElem hlt] at hd
      rw [Option.some.inj hd]
    rw [hdrop] at wi
    unfold forGo at wi
    have Ry := Ri.gro Gy
    cases hb : τ.bd d ρi with
    | none => rw [hb] at wi; exact wi.elim
    | some ρ' =>
      rw [hb] at wi
      refine tg_w Ry ry hb fun σ2 R2 _ => ⟨Fy, ρ', gi, _, R2, wi, ?_⟩
      have ey : Same F1 Fy := ei.trans Gy.ff
      refine ⟨fun σ' H' F' ρ' g' e R' w' => ⟨F', ρ', g', ey.trans e, R', w'⟩, q.rt, fun σ' H' F' ρ' g' e R' w' => q.nx σ' H' F' ρ' g' (ey.trans e) R' w', fun σ' H' F' ρ' g' e R' w' => ⟨F', ρ', g', ey.trans e, R', w'⟩, q.gz⟩
  · have e : i = ds.length := by omega
    subst e
    rw [List.drop_length] at wi
    exact .inl ⟨wk.stops H (ei.trans Ri.fh), q.nx σ H Fi ρi gi ei Ri wi⟩
theorem sv_for {tg iter : Expr} {body : List Stmt} {τ : Tg} {mi : EM (List D)} (hp : PassesOwn (model X.prog X.w) X.A X.env X.xe) (hc : X.calm = true) (hi : EI X tg iter mi) (hg : EG X tg τ) (hb : SVs X body n)
    (hs : ∀ x, foldedSetIterable iter X.env x = pure x := by intro _; rfl) : SV X (.For tg iter body [] pos) (sFor mi τ n) := by
  intro B W hB L
  refine ps_mono (ps_for hp hc (hi B W hB L) hg (hb B W hB L) hs) ?_
  rintro D σ H ⟨F, ρ, g, DD, R, w, q⟩
  refine ⟨F, ρ, g, _, R, w, ?_⟩
  intro J H1 F1 g1 ds k1 R1 wk w1
  rw [← hB]
  exact for_w wk (q.mono k1.ff) σ H1 R1 w1
def whGo (t : EM Bool) (n : SM) (DD : SE) (W : Wi) : Nat → Rho → G → Prop
  | 0, _, _ => False
  | f + 1, ρ, g => t ρ g (fun k g' => if k = true then n { DD with nx := whGo t n DD W f, ct := whGo t n DD W f, bk := DD.nx } W ρ g' else DD.nx ρ g') (fun x g' => W x ρ g')
def sWhile (t : EM Bool) (n : SM) : SM := fun DD W ρ g => ∃ f, whGo t n DD W f ρ g
theorem sv_while {body : List Stmt} (hp : PassesOwn (model X.prog X.w) X.A X.env X.xe) (hc : ET X c mt) (hb : SVs X body n) : SV X (.While c body [] pos) (sWhile mt n) := by
  intro B W hB L
  refine ps_mono (ps_while hp (hc B W hB L) (hb B W hB L)) ?_
  rintro D σ H ⟨F, ρ, g, DD, R, ⟨f, w⟩, q⟩
  refine ⟨fun m σ H => ∃ Fi ρi gi, Same F Fi ∧ Rl B Fi ρi gi σ H ∧ whGo mt n DD W m ρi gi, ⟨f, F, ρ, g, Same.refl F, R, w⟩, ?_⟩
  rintro m σ H ⟨Fi, ρi, gi, ei, Ri, wi⟩
  cases m with
  | zero => exact wi.elim
  | succ f =>
    unfold whGo at wi
    refine ⟨Fi, ρi, gi, _, Ri, wi, ?_⟩
    intro k H' F' g' s R' w'
    cases k with
    | true =>
      rw [if_pos rfl] at w' ⊢
      refine ⟨fun σ H => ∃ Fi ρi gi, Same F Fi ∧ Rl B Fi ρi gi σ H ∧ whGo mt n DD W f ρi gi, fun σ' H' h => ⟨f, Nat.lt_succ_self f, h⟩, F', ρi, g', _, R', w', ?_⟩
      have ey : Same F F' := ei.trans s.ff
      exact ⟨fun σ' H' F' ρ' g' e R' w' => ⟨F', ρ', g', ey.trans e, R', w'⟩, q.rt, fun σ' H' F' ρ' g' e R' w' => q.nx σ' H' F' ρ' g' (ey.trans e) R' w', fun σ' H' F' ρ' g' e R' w' => ⟨F', ρ', g', ey.trans e, R', w'⟩, q.gz⟩
    | false =>
      rw [if_neg Bool.false_ne_true] at w' ⊢
      exact q.nx σ H' F' ρi g' (ei.trans s.ff) R' w'
end

/-! ### a def -/
@[simp] def startR (N : List Str) (ds : List D) : Rho := ds.map .val ++ List.replicate (N.length - ds.length) .no
theorem Rl.forget {B : Bs} {F : Hp} {ρ : Rho} {g : G} {σ : L2.St} {H : Hp} (R : Rl B F ρ g σ H) : Rl B F [] g [] H :=
  ⟨R.fh, R.f0, R.fn, R.dm, R.fr, R.gg, fun i s e => by simp at e, fun i j a ds es e => by simp at e, rfl⟩
theorem Rl.start {B : Bs} {F : Hp} {g : G} {H : Hp} {N : List Str} {vs : List V} {ds : List D} (R : Rl B F [] g [] H) (r : RepL B.K F vs ds) : Rl B F (startR N ds) g (L2.start N vs) H := by
  have hl := r.length
  have at_ : ∀ {i : Nat} {s : Sl}, (startR N ds)[i]? = some s → s = .no ∨ ∃ d, s = .val d ∧ ds[i]? = some d := fun {i s} e => by
    unfold startR at e
    by_cases h : i < ds.length
    · rw [List.getElem?_append_left (by simpa using h), List.getElem?_map] at e
      rw [List.getElem?_eq_getElem h] at e
      exact .inr ⟨ds[i], (Option.some.inj e).symm, List.getElem?_eq_getElem h⟩
    · rw [List.getElem?_append_right (by simpa using h)] at e
      exact .inl (List.eq_of_mem_replicate (List.mem_of_getElem? e))
  refine ⟨R.fh, R.f0, R.fn, R.dm, R.fr, R.gg, fun i s e => ?_, fun i j a ds' es e => ?_, ?_⟩
  · rcases at_ e with rfl | ⟨d, rfl, hd⟩
    · trivial
    · obtain ⟨v, hv, rv⟩ := r.get hd
      refine ⟨v, ?_, rv⟩
      unfold L2.start
      have h : i < vs.length := (List.getElem?_eq_some_iff.mp hv).1
      rw [List.getElem?_append_left (by simpa using h), List.getElem?_map, hv]
      rfl
  · rcases at_ e with z | ⟨d, z, _⟩ <;> cases z
  · unfold startR L2.start
    rw [List.length_append, List.length_append, List.length_map, List.length_map, List.length_replicate, List.length_replicate, hl]
section
variable {P : Program} {w : World} {K : PySem.W.Frag} {mg : Str → Option Value} {base : Heap}
/-- THE RULE for a def -/
theorem def_ok {x qual : Str} {st : Stmt} {f : Addr} {fd : FuncData} {N ps : List Str} {k : Nat} {sp : FSp} (F : Fun K x qual st f fd) (S : FnScope N ps (defScope st)) (hm : mg x = some (.ref f)) (hb : Binds K fd ps [])
    (len : ∀ ds g Q E, sp ds g Q E → ds.length = ps.length)
    (hbody : ∀ (cdv : Value) (A : Around) (outer : List Env) (s : Shared) (H : Hp) (E : XK), RoomG k (A.deeper (envOfC qual (defScope st) s.heap.objs.size f cdv)) →
      ∃ m : SM, SVs (cxOf (L2.CX P w) P w K mg base N qual (defScope st) f cdv A outer s H E) (defBody st) m ∧
        ∀ ds g Q E, sp ds g Q E → m { nx := fun _ g' => Q .non g', rt := Q, g0 := g } (fun x _ g' => E x g') (startR N ds) g) : Def P w K mg base x (k + 1) sp := by
  refine ⟨f, fd, ps, ?_, hm, F.kp, hb⟩
  refine Fun.okG F S (fun vs H Q E h => ?_) (fun cdv A outer s H vs Q E hr h => ?_)
  · obtain ⟨F, g, ds, QD, ED, r, R, h, _⟩ := h
    rw [r.length]
    exact len _ _ _ _ h
  · obtain ⟨Fz, g, ds, QD, ED, r, R, h, qr, qe⟩ := h
    obtain ⟨m, hS, hm⟩ := hbody cdv A outer s H E hr
    have lk : Lk (cxOf (L2.CX P w) P w K mg base N qual (defScope st) f cdv A outer s H E) ⟨K, H, g, Fz⟩ (fun x _ g' => ED x g') :=
      Takes.imp (takes_of (E := E) rfl rfl rfl rfl) fun c d σ H' ⟨F', ρ', g', x, R', xr, z⟩ => qe c d H' F' g' x R'.forget xr z
    refine ⟨_, hS ⟨K, H, g, Fz⟩ (fun x _ g' => ED x g') rfl lk, Fz, startR N ds, g, _, R.start r, hm ds g QD ED h, ?_⟩
    refine ⟨fun σ' H' F' ρ' g' e R' w' => qr _ H' F' g' _ R'.forget .non w', fun v σ' H' F' ρ' g' d R' r w' => qr v H' F' g' d R'.forget r w', fun _ _ _ _ _ _ _ z => z.elim, fun _ _ _ _ _ _ _ z => z.elim, rfl⟩
/-- a promise that nobody asks for -/
theorem Def.never {x : Str} {f : Addr} {fd : FuncData} {ps : List Str} {k : Nat} {sp : FSp} (hm : mg x = some (.ref f)) (kp : PySem.W.keepIn K (.ref f) = true) (hb : Binds K fd ps []) (no : ∀ ds g Q E, ¬ sp ds g Q E) : Def P w K mg base x k sp :=
  ⟨f, fd, ps, ⟨fun xs H0 Q0 E0 h => by obtain ⟨F, g, ds, QD, ED, r, R, h, _⟩ := h; exact (no _ _ _ _ h).elim, fun B fr sh H0 ar us0 xs Q0 E0 _ _ _ _ h => by obtain ⟨F, g, ds, QD, ED, r, R, h, _⟩ := h; exact (no _ _ _ _ h).elim⟩, hm, kp, hb⟩
end
end DL

set_option Elab.async false
set_option linter.all false
set_option maxRecDepth 100000
/-! DL7: operations. -/
namespace DL
open PySem PySem.Spec PyProof.Rows L2

/-! ### from the layer's rules -/
theorem os2_of {X : Cx} {fn : Value → Value → Sem Value} {r : R2} {f : D → D → Option D} (h : OpR X fn r)
    (w : ∀ F H x y dx dy dz (Q : VK), Same F H → Rep X.K F x dx → Rep X.K F y dy → f dx dy = some dz → (∀ w F' H', Gro F H F' H' → Rep X.K F' w dz → Q w H') → r x y H Q) : OS2 X fn f :=
  fun pins s σ H F x y v u dx dy dz Q I hF rx ry hx hy hf q => h pins s σ H x y v u Q I rx ry (w F H x y dx dy dz Q hF hx hy hf q)
theorem cs_of {X : Cx} {fv : Value} {r : List V → Hp → VK → Prop} {f : List D → Option D} (h : CallR X fv r)
    (w : ∀ F H xs ds dz (Q : VK), Same F H → RepL X.K F xs ds → f ds = some dz → (∀ w F' H', Gro F H F' H' → Rep X.K F' w dz → Q w H') → r xs H Q) : CS X fv f :=
  fun pins s σ H F xs us ds dz Q I hF rx hx hf q => h pins s σ H xs us Q I rx (w F H xs ds dz Q hF hx hf q)
theorem cn_of {X : Cx} {fv : Value} {r : List V → Hp → VK → Prop} {f : List D → Option (List D)} (h : CallR X fv r)
    (w : ∀ F H xs ds dz (Q : VK), Same F H → RepL X.K F xs ds → f ds = some dz → (∀ p ys F' H', Gro F H F' H' → H p = none → RepL X.K F' ys dz → F' p = none → H' p = none → Q (.ref p) (upd H' p (.lst ys))) → r xs H Q) : CN X fv f :=
  fun pins s σ H F xs us ds dz Q I hF rx hx hf q => h pins s σ H xs us Q I rx (w F H xs ds dz Q hF hx hf q)

section
variable {X : Cx}
theorem os2_int {fn : Value → Value → Sem Value} {C : Int → Int → Prop} [∀ i j, Decidable (C i j)] {g : Int → Int → Int} (h : OpR X fn (rI C fun i j => .int (g i j))) :
    OS2 X fn (fun x y => match x, y with | .int i, .int j => if C i j then some (.int (g i j)) else none | _, _ => none) := by
  refine os2_of h fun F H x y dx dy dz Q hF hx hy hf q => ?_
  split at hf
  · cases hx.int_inv
    cases hy.int_inv
    split at hf
    · rename_i hc
      cases hf
      exact ⟨_, _, rfl, rfl, hc, q _ F H (Gro.refl hF) (.int _)⟩
    · cases hf
  · cases hf
theorem os2_int0 {fn : Value → Value → Sem Value} {g : Int → Int → Int} (h : OpR X fn (rI0 fun i j => .int (g i j))) :
    OS2 X fn (fun x y => match x, y with | .int i, .int j => some (.int (g i j)) | _, _ => none) := by
  refine os2_of h fun F H x y dx dy dz Q hF hx hy hf q => ?_
  split at hf
  · cases hx.int_inv
    cases hy.int_inv
    cases hf
    exact ⟨_, _, rfl, rfl, q _ F H (Gro.refl hF) (.int _)⟩
  · cases hf
theorem os2_bl0 {fn : Value → Value → Sem Value} {g : Int → Int → Bool} (h : OpR X fn (rI0 fun i j => .bl (g i j))) :
    OS2 X fn (fun x y => match x, y with | .int i, .int j => some (.bl (g i j)) | _, _ => none) := by
  refine os2_of h fun F H x y dx dy dz Q hF hx hy hf q => ?_
  split at hf
  · cases hx.int_inv
    cases hy.int_inv
    cases hf
    exact ⟨_, _, rfl, rfl, q _ F H (Gro.refl hF) (.bl _)⟩
  · cases hf
@[simp] def addI (x y : D) : Option D := match x, y with | .int i, .int j => some (.int (i + j)) | _, _ => none
@[simp] def subI (x y : D) : Option D := match x, y with | .int i, .int j => some (.int (i - j)) | _, _ => none
def mulOk (i j : Int) : Prop := CMulW i j ∨ CMul i j
instance (i j : Int) : Decidable (CMulW i j) := by unfold CMulW; exact inferInstance
instance (i j : Int) : Decidable (CMul i j) := by unfold CMul; exact inferInstance
instance (i j : Int) : Decidable (mulOk i j) := by unfold mulOk; exact inferInstance
instance (i j : Int) : Decidable (CDivW i j) := by unfold CDivW; exact inferInstance
instance (i j : Int) : Decidable (CPow i j) := by unfold CPow; exact inferInstance
@[simp] def mulI (x y : D) : Option D := match x, y with | .int i, .int j => if mulOk i j then some (.int (i * j)) else none | _, _ => none
@[simp] def fdivI (x y : D) : Option D := match x, y with | .int i, .int j => if CDivW i j then some (.int (i / j)) else none | _, _ => none
@[simp] def modI (x y : D) : Option D := match x, y with | .int i, .int j => if 0 < j then some (.int (i % j)) else none | _, _ => none
@[simp] def powI (x y : D) : Option D := match x, y with | .int i, .int j => if CPow i j then some (.int (i ^ j.toNat)) else none | _, _ => none
@[simp] def ltI (x y : D) : Option D := match x, y with | .int i, .int j => some (.bl (decide (i < j))) | _, _ => none
@[simp] def leI (x y : D) : Option D := match x, y with | .int i, .int j => some (.bl (decide (i ≤ j))) | _, _ => none
@[simp] def gtI (x y : D) : Option D := match x, y with | .int i, .int j => some (.bl (decide (j < i))) | _, _ => none
@[simp] def geI (x y : D) : Option D := match x, y with | .int i, .int j => some (.bl (decide (j ≤ i))) | _, _ => none
theorem op_mulM : OpR X (binaryOp .Mult) (rI mulOk fun i j => .int (i * j)) := opI fun _ _ _ _ _ _ _ hc q => mul_int q (by rcases hc with h | h; exact h.ok; exact h.ok)
theorem os_add : OS2 X (binaryOp .Add) addI := os2_int0 op_add
theorem os_sub : OS2 X (binaryOp .Sub) subI := os2_int0 op_sub
theorem os_mul : OS2 X (binaryOp .Mult) mulI := os2_int op_mulM
theorem os_fdiv : OS2 X (binaryOp .FloorDiv) fdivI := os2_int op_fdivW
theorem os_mod : OS2 X (binaryOp .Mod) modI := os2_int op_mod
theorem os_pow : OS2 X (binaryOp .Pow) powI := os2_int op_pow
theorem os_lt : OS2 X (compareOp .Lt) ltI := os2_bl0 op_lt
theorem os_le : OS2 X (compareOp .LtE) leI := os2_bl0 op_le
theorem os_gt : OS2 X (compareOp .Gt) gtI := os2_bl0 op_gt
theorem os_ge : OS2 X (compareOp .GtE) geI := os2_bl0 op_ge
/-- -x -/
@[simp] def negI (x : D) : Option D := match x with | .int i => some (.int (-i)) | _ => none
theorem ev_neg {a : Expr} {ma : EM D} {pos : Pos} (ha : EV X a ma) : EV X (.UnaryOp .USub a pos) (e1 negI ma) := by
  intro B W hB L
  refine pe_mono (pe_un un_neg (ha B W hB L)) ?_
  rintro σ H Q ⟨F, ρ, g, QD, R, w, q⟩
  refine ⟨F, ρ, g, _, R, w, ?_⟩
  intro v1 H1 F1 g1 d1 k1 R1 r1 w1
  cases d1 with
  | int i => exact ⟨i, r1.int_inv, q _ H1 F1 g1 _ k1 R1 (.int _) w1⟩
  | _ => exact w1.elim
/-- x is None, x is not None -/
@[simp] def nonB : D → Bool
  | .non => true
  | _ => false
@[simp] def isN (x : D) : Option D := some (.bl (nonB x))
@[simp] def notN (x : D) : Option D := some (.bl (!nonB x))
theorem Rep.non_iff {K : PySem.W.Frag} {F : Hp} {v : V} {d : D} (r : Rep K F v d) : decide (v = .non) = nonB d := by
  cases r <;> rfl
theorem ev_isN {a : Expr} {ma : EM D} {pos : Pos} {j p} (ha : EV X a ma) : EV X (.Compare a [.Is] [.Constant .none j p] pos) (e1 isN ma) := by
  intro B W hB L
  refine pe_mono (pe_cmp (pc_isN (ha B W hB L)) (by rfl)) ?_
  rintro σ H Q ⟨F, ρ, g, QD, R, w, q⟩
  refine ⟨F, ρ, g, _, R, w, ?_⟩
  intro v1 H1 F1 g1 d1 k1 R1 r1 w1
  rw [r1.non_iff]
  exact q _ H1 F1 g1 _ k1 R1 (.bl _) w1
theorem ev_notN {a : Expr} {ma : EM D} {pos : Pos} {j p} (ha : EV X a ma) : EV X (.Compare a [.IsNot] [.Constant .none j p] pos) (e1 notN ma) := by
  intro B W hB L
  refine pe_mono (pe_cmp (pc_notN (ha B W hB L)) (by rfl)) ?_
  rintro σ H Q ⟨F, ρ, g, QD, R, w, q⟩
  refine ⟨F, ρ, g, _, R, w, ?_⟩
  intro v1 H1 F1 g1 d1 k1 R1 r1 w1
  rw [r1.non_iff]
  exact q _ H1 F1 g1 _ k1 R1 (.bl _) w1

/-! ### data: ==, in -/
mutual
def py : D → PyData
  | .non => .none
  | .bl b => .bool b
  | .int i => .int i
  | .str x => .str x
  | .tup ds => .tuple (pyL ds)
  | .ptp ds => .tuple (pyL ds)
  | .lst ds => .list (pyL ds)
  | .dic _ _ => .none
  | .ref _ => .none
  | .obj _ _ => .none
def pyL : List D → List PyData
  | [] => []
  | d :: ds => py d :: pyL ds
end
mutual
def pok : D → Bool
  | .obj _ _ => false
  | .dic _ _ => false
  | .ref _ => false
  | .tup ds => pokL ds
  | .ptp ds => pokL ds
  | .lst ds => pokL ds
  | _ => true
def pokL : List D → Bool
  | [] => true
  | d :: ds => pok d && pokL ds
end
mutual
theorem Rep.dp {K : PySem.W.Frag} {F : Hp} : ∀ {d : D} {v : V}, pok d = true → Rep K F v d → Dp K F v (py d)
  | .non, _, _, h => by cases h; exact .non
  | .bl b, _, _, h => by cases h; exact .bl b
  | .int b, _, _, h => by cases h; exact .int b
  | .str b, _, _, h => by cases h; exact .str b
  | .ref b, _, p, h => by simp [pok] at p
  | .dic _ _, _, p, h => by simp [pok] at p
  | .obj _ _, _, p, h => by simp [pok] at p
  | .tup ds, _, p, h => by
    cases h with
    | tup hs hr => exact .tup hs.sqT (RepL.dp (by simpa [pok] using p) hr)
  | .ptp ds, _, p, h => by
    cases h with
    | ptp hs hr => exact .tup hs (RepL.dp (by simpa [pok] using p) hr)
  | .lst ds, _, p, h => by
    cases h with
    | lst hs hr => exact .lst hs (RepL.dp (by simpa [pok] using p) hr)
theorem RepL.dp {K : PySem.W.Frag} {F : Hp} : ∀ {ds : List D} {vs : List V}, pokL ds = true → RepL K F vs ds → DpAll K F vs (pyL ds)
  | [], _, _, h => by cases h; exact .nil
  | d :: ds, _, p, h => by
    cases h with
    | cons h1 h2 =>
      have p' : pok d = true ∧ pokL ds = true := by simpa [pokL] using p
      exact .cons (Rep.dp p'.1 h1) (RepL.dp p'.2 h2)
end
mutual
theorem Dp.mono {K : PySem.W.Frag} {F F' : Hp} (e : Same F F') : ∀ {d : PyData} {v : V}, Dp K F v d → Dp K F' v d
  | .none, _, h => by cases h; exact .non
  | .bool b, _, h => by cases h; exact .bl b
  | .int b, _, h => by cases h; exact .int b
  | .str b, _, h => by cases h; exact .str b
  | .dict _, _, h => by cases h
  | .tuple ds, _, h => by
    cases h with
    | tup hs hr => exact .tup (same_sqT e hs) (DpAll.mono e hr)
  | .list ds, _, h => by
    cases h with
    | lst hs hr => exact .lst (e.seq hs) (DpAll.mono e hr)
theorem DpAll.mono {K : PySem.W.Frag} {F F' : Hp} (e : Same F F') : ∀ {ds : List PyData} {vs : List V}, DpAll K F vs ds → DpAll K F' vs ds
  | [], _, h => by cases h; exact .nil
  | d :: ds, _, h => by
    cases h with
    | cons h1 h2 => exact .cons (Dp.mono e h1) (DpAll.mono e h2)
end
mutual
theorem plain_py : ∀ d : D, pok d = true → (py d).plain = true
  | .non, _ => rfl
  | .bl _, _ => rfl
  | .int _, _ => rfl
  | .str _, _ => rfl
  | .ref _, p => by simp [pok] at p
  | .dic _ _, p => by simp [pok] at p
  | .obj _ _, p => by simp [pok] at p
  | .tup ds, p => by simp only [py, PyData.plain]; exact plain_pyL ds (by simpa [pok] using p)
  | .ptp ds, p => by simp only [py, PyData.plain]; exact plain_pyL ds (by simpa [pok] using p)
  | .lst ds, p => by simp only [py, PyData.plain]; exact plain_pyL ds (by simpa [pok] using p)
theorem plain_pyL : ∀ ds : List D, pokL ds = true → PyData.plainAll (pyL ds) = true
  | [], _ => rfl
  | d :: ds, p => by
    have p' : pok d = true ∧ pokL ds = true := by simpa [pokL] using p
    simp only [pyL, PyData.plainAll, plain_py d p'.1, plain_pyL ds p'.2, Bool.and_self]
end
mutual
/-- no deeper than so much -/
def dep : Nat → D → Bool
  | 0, .tup _ => false
  | 0, .ptp _ => false
  | 0, .lst _ => false
  | n + 1, .tup ds => depL n ds
  | n + 1, .ptp ds => depL n ds
  | n + 1, .lst ds => depL n ds
  | _, _ => true
def depL : Nat → List D → Bool
  | _, [] => true
  | n, d :: ds => dep n d && depL n ds
end
mutual
theorem depth_py : ∀ (n : Nat) (d : D), dep n d = true → (py d).depth ≤ n
  | n, .non, _ => by simp [py, PyData.depth]
  | n, .bl _, _ => by simp [py, PyData.depth]
  | n, .int _, _ => by simp [py, PyData.depth]
  | n, .str _, _ => by simp [py, PyData.depth]
  | n, .ref _, _ => by simp [py, PyData.depth]
  | n, .dic _ _, _ => by simp [py, PyData.depth]
  | n, .obj _ _, _ => by simp [py, PyData.depth]
  | 0, .tup ds, p => by simp [dep] at p
  | 0, .ptp ds, p => by simp [dep] at p
  | 0, .lst ds, p => by simp [dep] at p
  | n + 1, .tup ds, p => by
    have := depth_pyL n ds (by simpa [dep] using p)
    simp only [py, PyData.depth]; omega
  | n + 1, .ptp ds, p => by
    have := depth_pyL n ds (by simpa [dep] using p)
    simp only [py, PyData.depth]; omega
  | n + 1, .lst ds, p => by
    have := depth_pyL n ds (by simpa [dep] using p)
    simp only [py, PyData.depth]; omega
theorem depth_pyL : ∀ (n : Nat) (ds : List D), depL n ds = true → PyData.depthAll (pyL ds) ≤ n
  | n, [], _ => by simp [pyL, PyData.depthAll]
  | n, d :: ds, p => by
    have p' : dep n d = true ∧ depL n ds = true := by simpa [depL] using p
    have h1 := depth_py n d p'.1
    have h2 := depth_pyL n ds p'.2
    simp only [pyL, PyData.depthAll]; omega
end
/-- how deep data may be -/
def deepest : Nat := 60
def eqOk (x y : D) : Bool := pok x && pok y && (dep deepest x || dep deepest y)
def eqD (x y : D) : Option D := if eqOk x y = true then some (.bl (PyData.eqv (py x) (py y))) else none
def neD (x y : D) : Option D := if eqOk x y = true then some (.bl (!PyData.eqv (py x) (py y))) else none
theorem eqOk_room {A : Around} {k : Nat} (hr : Room k A) {x y : D} (h : eqOk x y = true) : pok x = true ∧ pok y = true ∧ A.units + min (py x).depth (py y).depth < cLine := by
  unfold eqOk at h
  simp only [Bool.and_eq_true, Bool.or_eq_true] at h
  refine ⟨h.1.1, h.1.2, ?_⟩
  have hu := hr.units
  have : min (py x).depth (py y).depth ≤ 60 := by
    rcases h.2 with z | z
    · have := depth_py _ _ z; unfold deepest at this; omega
    · have := depth_py _ _ z; unfold deepest at this; omega
  omega
theorem os_eq {k : Nat} (hr : Room k X.A) : OS2 X (compareOp .Eq) eqD := by
  intro pins s σ H F x y v u dx dy dz Q I hF rx ry hx hy hf q
  unfold eqD at hf
  split at hf
  · rename_i ho
    cases hf
    obtain ⟨p1, p2, hu⟩ := eqOk_room hr ho
    obtain ⟨as, r1⟩ := Dp.reads I _ x v (Dp.mono hF (hx.dp p1)) rx
    obtain ⟨bs, r2⟩ := Dp.reads I _ y u (Dp.mono hF (hy.dp p2)) ry
    exact PySem.SeqAt.eq_plain r1 r2 (plain_py _ p1) (plain_py _ p2) hu ⟨.bl _, H, I, rfl, q _ F H (Gro.refl hF) (.bl _)⟩
  · cases hf
theorem os_ne {k : Nat} (hr : Room k X.A) : OS2 X (compareOp .NotEq) neD := by
  intro pins s σ H F x y v u dx dy dz Q I hF rx ry hx hy hf q
  unfold neD at hf
  split at hf
  · rename_i ho
    cases hf
    obtain ⟨p1, p2, hu⟩ := eqOk_room hr ho
    obtain ⟨as, r1⟩ := Dp.reads I _ x v (Dp.mono hF (hx.dp p1)) rx
    obtain ⟨bs, r2⟩ := Dp.reads I _ y u (Dp.mono hF (hy.dp p2)) ry
    exact PySem.SeqAt.ne_plain r1 r2 (plain_py _ p1) (plain_py _ p2) hu ⟨.bl _, H, I, rfl, q _ F H (Gro.refl hF) (.bl _)⟩
  · cases hf
def inOk (x y : D) : Bool := pok x && pok y && dep deepest x
/-- a text of one sign -/
def signOf : D → Option Nat
  | .str z => match z.cps.toList with
    | [c] => some c
    | _ => none
  | _ => none
@[simp] theorem signOf_one {c : Nat} : signOf (.str ⟨#[c]⟩) = some c := rfl
theorem signOf_eq {x : D} {c : Nat} (h : signOf x = some c) : x = .str ⟨#[c]⟩ := by
  cases x with
  | str z =>
    unfold signOf at h
    simp only at h
    split at h
    · rename_i b hb
      cases h
      obtain ⟨⟨l⟩⟩ := z
      simp only at hb
      rw [hb]
    · cases h
  | _ => cases h
def inD (x y : D) : Option D := match y with
  | .tup ds => if inOk x (.tup ds) = true then some (.bl ((pyL ds).any fun z => PyData.eqv z (py x))) else none
  | .lst ds => if inOk x (.lst ds) = true then some (.bl ((pyL ds).any fun z => PyData.eqv z (py x))) else none
  | .str z => match signOf x with
    | some c => some (.bl (decide (c ∈ z.cps.toList)))
    | none => none
  | _ => none
def notInD (x y : D) : Option D := match y with
  | .tup ds => if inOk x (.tup ds) = true then some (.bl (!(pyL ds).any fun z => PyData.eqv z (py x))) else none
  | .lst ds => if inOk x (.lst ds) = true then some (.bl (!(pyL ds).any fun z => PyData.eqv z (py x))) else none
  | .str z => match signOf x with
    | some c => some (.bl (!decide (c ∈ z.cps.toList)))
    | none => none
  | _ => none
theorem inOk_room {A : Around} {k : Nat} (hr : Room k A) {x y : D} (h : inOk x y = true) (n : Nat) : pok x = true ∧ pok y = true ∧ A.units + 1 + min n (py x).depth < cLine := by
  unfold inOk at h
  simp only [Bool.and_eq_true] at h
  refine ⟨h.1.1, h.1.2, ?_⟩
  have hu := hr.units
  have := depth_py _ _ h.2
  unfold deepest at this
  omega
theorem os_in {k : Nat} (hr : Room k X.A) : OS2 X (compareOp .In) inD := by
  intro pins s σ H F x y v u dx dy dz Q I hF rx ry hx hy hf q
  unfold inD at hf
  split at hf
  · split at hf
    · rename_i ds ho
      cases hf
      obtain ⟨p1, p2, hu⟩ := inOk_room hr ho (PyData.depthAll (pyL ds))
      obtain ⟨as, r1⟩ := Dp.reads I _ x v (Dp.mono hF (hx.dp p1)) rx
      obtain ⟨bs, r2⟩ := Dp.reads I _ y u (Dp.mono hF (hy.dp p2)) ry
      rw [py] at r2
      exact PySem.SeqAt.in_tuple_data r2 r1 (plain_pyL _ (by simpa [pok] using p2)) (plain_py _ p1) hu ⟨.bl _, H, I, rfl, q _ F H (Gro.refl hF) (.bl _)⟩
    · cases hf
  · split at hf
    · rename_i ds ho
      cases hf
      obtain ⟨p1, p2, hu⟩ := inOk_room hr ho (PyData.depthAll (pyL ds))
      obtain ⟨as, r1⟩ := Dp.reads I _ x v (Dp.mono hF (hx.dp p1)) rx
      obtain ⟨bs, r2⟩ := Dp.reads I _ y u (Dp.mono hF (hy.dp p2)) ry
      rw [py] at r2
      exact PySem.SeqAt.in_list_data r2 r1 (plain_pyL _ (by simpa [pok] using p2)) (plain_py _ p1) hu ⟨.bl _, H, I, rfl, q _ F H (Gro.refl hF) (.bl _)⟩
    · cases hf
  · split at hf
    · rename_i z _ c hc
      cases hf
      rw [signOf_eq hc] at hx
      cases hx.str_inv
      cases hy.str_inv
      exact op_in_sign pins s σ H _ _ v u Q I rx ry ⟨c, z, rfl, rfl, q _ F H (Gro.refl hF) (.bl _)⟩
    · cases hf
  · cases hf
theorem os_notIn {k : Nat} (hr : Room k X.A) : OS2 X (compareOp .NotIn) notInD := by
  intro pins s σ H F x y v u dx dy dz Q I hF rx ry hx hy hf q
  unfold notInD at hf
  split at hf
  · split at hf
    · rename_i ds ho
      cases hf
      obtain ⟨p1, p2, hu⟩ := inOk_room hr ho (PyData.depthAll (pyL ds))
      obtain ⟨as, r1⟩ := Dp.reads I _ x v (Dp.mono hF (hx.dp p1)) rx
      obtain ⟨bs, r2⟩ := Dp.reads I _ y u (Dp.mono hF (hy.dp p2)) ry
      rw [py] at r2
      exact PySem.SeqAt.notIn_tuple_data r2 r1 (plain_pyL _ (by simpa [pok] using p2)) (plain_py _ p1) hu ⟨.bl _, H, I, rfl, q _ F H (Gro.refl hF) (.bl _)⟩
    · cases hf
  · split at hf
    · rename_i ds ho
      cases hf
      obtain ⟨p1, p2, hu⟩ := inOk_room hr ho (PyData.depthAll (pyL ds))
      obtain ⟨as, r1⟩ := Dp.reads I _ x v (Dp.mono hF (hx.dp p1)) rx
      obtain ⟨bs, r2⟩ := Dp.reads I _ y u (Dp.mono hF (hy.dp p2)) ry
      rw [py] at r2
      exact PySem.SeqAt.notIn_list_data r2 r1 (plain_pyL _ (by simpa [pok] using p2)) (plain_py _ p1) hu ⟨.bl _, H, I, rfl, q _ F H (Gro.refl hF) (.bl _)⟩
    · cases hf
  · split at hf
    · rename_i z _ c hc
      cases hf
      rw [signOf_eq hc] at hx
      cases hx.str_inv
      cases hy.str_inv
      exact op_notIn_sign pins s σ H _ _ v u Q I rx ry ⟨c, z, rfl, rfl, q _ F H (Gro.refl hF) (.bl _)⟩
    · cases hf
  · cases hf
end
end DL

set_option Elab.async false
set_option linter.all false
set_option maxRecDepth 100000
/-! DL8: built-ins. -/
namespace DL
open PySem PySem.Spec PyProof.Rows L2
section
variable {X : Cx} {a b c e : Expr} {es : List Expr} {ma mb m : EM D} {ms : EM (List D)} {pos : Pos}

theorem RepL.one_inv {K : PySem.W.Frag} {F : Hp} {xs : List V} {d : D} (h : RepL K F xs [d]) : ∃ v, xs = [v] ∧ Rep K F v d := by
  cases h with
  | cons r t => cases t; exact ⟨_, rfl, r⟩
theorem RepL.two_inv {K : PySem.W.Frag} {F : Hp} {xs : List V} {d d' : D} (h : RepL K F xs [d, d']) : ∃ v v', xs = [v, v'] ∧ Rep K F v d ∧ Rep K F v' d' := by
  cases h with
  | cons r t =>
    cases t with
    | cons r' t => cases t; exact ⟨_, _, rfl, r, r'⟩

/-! ### isinstance -/
inductive Ty where | int | bool | str | tuple | list | dict
def Ty.nm : Ty → String
  | .int => "int"
  | .bool => "bool"
  | .str => "str"
  | .tuple => "tuple"
  | .list => "list"
  | .dict => "dict"
@[simp] def isTy : Ty → D → Bool
  | .int, .int _ => true
  | .int, .bl _ => true
  | .bool, .bl _ => true
  | .str, .str _ => true
  | .tuple, .tup _ => true
  | .tuple, .ptp _ => true
  | .list, .lst _ => true
  | .dict, .dic _ _ => true
  | _, _ => false
@[simp] def noRef : D → Bool
  | .ref _ => false
  | .obj _ _ => false
  | _ => true
@[simp] def isiD (T : Ty) (d : D) : Option D := if noRef d = true then some (.bl (isTy T d)) else none
def tyN : D → String
  | .non => "NoneType"
  | .bl _ => "bool"
  | .int _ => "int"
  | .str _ => "str"
  | .tup _ => "tuple"
  | .ptp _ => "tuple"
  | .lst _ => "list"
  | .dic _ _ => "dict"
  | .ref _ => "list"
  | .obj _ _ => "list"
theorem kit_all (T : Ty) (d : D) (h : noRef d = true) : kitB (tyN d) T.nm = some (isTy T d) := by
  cases T <;> cases d <;> first | (simp [noRef] at h; done) | (simp only [tyN, Ty.nm, isTy]; decide +kernel)
theorem Rep.tyX {K : PySem.W.Frag} {F H : Hp} {v : V} {d : D} (e : Same F H) (r : Rep K F v d) (h : noRef d = true) : TyX K H v (.type (tyN d)) := by
  cases r with
  | non => exact .base .non
  | bl b => exact .base (.bl b)
  | int b => exact .base (.int b)
  | str b => exact .base (.str b)
  | ref a => simp [noRef] at h
  | obj _ _ _ => simp [noRef] at h
  | tup hs hr =>
    rcases (same_sqN e hs).sqT with (q | ⟨o, q⟩) | ⟨o, its, n, q1, q2, _⟩
    · exact .base (.tup q)
    · exact .fTuple q
    · exact .kTuple q1 q2
  | ptp hs hr =>
    rcases same_sqT e hs with (q | ⟨o, q⟩) | ⟨o, its, n, q1, q2, _⟩
    · exact .base (.tup q)
    · exact .fTuple q
    · exact .kTuple q1 q2
  | lst hs hr =>
    rcases e.seq hs with (q | ⟨o, q⟩) | ⟨o, its, n, q1, q2, _⟩
    · exact .base (.lst q)
    · exact .base (.frz q)
    · exact .kList q1 q2
  | dic hs hk hn hr => exact .fDict (e _ _ hs)
theorem ev_isi {x2 : Str} {p p2 : Pos} (T : Ty) (hg : Gl X "isinstance") (hm : X.mg "isinstance" = none) (hg2 : Gl X x2) (hm2 : X.mg x2 = none) (hv2 : bootBuiltins x2 = some (.type T.nm)) (ha : EV X a ma) (hn2 : x2 ≠ "__name__" := by decide) (hd2 : (x2 == ("__debug__" : Str)) = false := by decide)
    (he : starEach [a, .Name x2 p2] X.env = (false, eval a X.env) :: starEach [.Name x2 p2] X.env := by rfl) (hpl : (backTo pos (starEach [.Name x2 p2] X.env)).any (·.1) = false := by rfl)
    (he2 : starEach [.Name x2 p2] X.env = (false, eval (.Name x2 p2) X.env) :: starEach [] X.env := by rfl) : EV X (.Call (.Name "isinstance" p) [a, .Name x2 p2] [] pos) (e1 (isiD T) ma) := by
  intro B W hB L
  refine pe_mono (pe_callB call_isi hg hm PyProof.Rows.boot_isinstance (pa_cons (ha B W hB L) (pa_cons (pe_bltn (v := V.ty T.nm) hg2 hm2 hv2 rfl hn2 hd2) pa_nil he2) he) (by decide) (by decide) he hpl) ?_
  rintro σ H Q ⟨F, ρ, g, QD, R, w, q⟩
  refine ⟨F, ρ, g, _, R, w, ?_⟩
  intro v1 H1 F1 g1 d1 k1 R1 r1 w1
  by_cases h : noRef d1 = true
  · unfold isiD at w1
    rw [if_pos h] at w1
    exact ⟨v1, .ty T.nm, .type (tyN d1), .type T.nm, isTy T d1, rfl, .ty _, by rw [← hB]; exact r1.tyX R1.fh h, kit_ty (kit_all T d1 h), q _ H1 F1 g1 _ k1 R1 (.bl _) w1⟩
  · unfold isiD at w1
    rw [if_neg h] at w1
    exact w1.elim

/-! ### len, int, abs, max, min, all, any -/
@[simp] def lenD : List D → Option D
  | [.tup ds] => some (.int ds.length)
  | [.ptp ds] => some (.int ds.length)
  | [.lst ds] => some (.int ds.length)
  | [.str z] => if z.length ≤ sizeLine then some (.int z.length) else none
  | _ => none
theorem cs_len : CS X (.builtin "len") lenD := by
  refine cs_of call_len fun F H xs ds dz Q hF hx hf q => ?_
  unfold lenD at hf
  split at hf
  · cases hf
    obtain ⟨v, rfl, r⟩ := hx.one_inv
    cases r with
    | tup hs hr => exact ⟨_, _, rfl, .inr ⟨_, same_sqT hF hs.sqT, hr.length.symm⟩, q _ F H (Gro.refl hF) (.int _)⟩
  · cases hf
    obtain ⟨v, rfl, r⟩ := hx.one_inv
    cases r with
    | ptp hs hr => exact ⟨_, _, rfl, .inr ⟨_, same_sqT hF hs, hr.length.symm⟩, q _ F H (Gro.refl hF) (.int _)⟩
  · cases hf
    obtain ⟨v, rfl, r⟩ := hx.one_inv
    cases r with
    | lst hs hr => exact ⟨_, _, rfl, .inl ⟨_, hF.seq hs, hr.length.symm⟩, q _ F H (Gro.refl hF) (.int _)⟩
  · obtain ⟨v, rfl, r⟩ := hx.one_inv
    split at hf
    · rename_i hz
      cases hf
      cases r.str_inv
      exact ⟨_, _, rfl, ⟨hz, rfl⟩, q _ F H (Gro.refl hF) (.int _)⟩
    · cases hf
  · cases hf
@[simp] def intD : List D → Option D
  | [.int i] => some (.int i)
  | [.bl k] => some (.int (if k then 1 else 0))
  | _ => none
theorem cs_int : CS X (.type "int") intD := by
  refine cs_of call_int1 fun F H xs ds dz Q hF hx hf q => ?_
  unfold intD at hf
  split at hf
  · cases hf
    obtain ⟨v, rfl, r⟩ := hx.one_inv
    cases r.int_inv
    exact .inl ⟨_, rfl, q _ F H (Gro.refl hF) (.int _)⟩
  · cases hf
    obtain ⟨v, rfl, r⟩ := hx.one_inv
    cases r.bl_inv
    exact .inr ⟨_, rfl, q _ F H (Gro.refl hF) (.int _)⟩
  · cases hf
@[simp] def absD : List D → Option D
  | [.int i] => some (.int (if i < 0 then -i else i))
  | _ => none
theorem cs_abs : CS X (.builtin "abs") absD := by
  refine cs_of call_abs fun F H xs ds dz Q hF hx hf q => ?_
  unfold absD at hf
  split at hf
  · cases hf
    obtain ⟨v, rfl, r⟩ := hx.one_inv
    cases r.int_inv
    exact ⟨_, rfl, q _ F H (Gro.refl hF) (.int _)⟩
  · cases hf
@[simp] def max2D : List D → Option D
  | [.int i, .int j] => some (.int (if j > i then j else i))
  | _ => none
theorem cs_max2 (hc : X.calm = true) : CS X (.builtin "max") max2D := by
  refine cs_of (call_max2 hc) fun F H xs ds dz Q hF hx hf q => ?_
  unfold max2D at hf
  split at hf
  · cases hf
    obtain ⟨v, v', rfl, r, r'⟩ := hx.two_inv
    cases r.int_inv
    cases r'.int_inv
    exact ⟨_, _, rfl, q _ F H (Gro.refl hF) (.int _)⟩
  · cases hf
@[simp] def min2D : List D → Option D
  | [.int i, .int j] => some (.int (if j < i then j else i))
  | _ => none
theorem cs_min2 (hc : X.calm = true) : CS X (.builtin "min") min2D := by
  refine cs_of (call_min2 hc) fun F H xs ds dz Q hF hx hf q => ?_
  unfold min2D at hf
  split at hf
  · cases hf
    obtain ⟨v, v', rfl, r, r'⟩ := hx.two_inv
    cases r.int_inv
    cases r'.int_inv
    exact ⟨_, _, rfl, q _ F H (Gro.refl hF) (.int _)⟩
  · cases hf
/-- the truth values, the ints of a row of such -/
def blsOf : List D → Option (List Bool)
  | [] => some []
  | .bl b :: ds => (blsOf ds).map (b :: ·)
  | _ => none
def intsOf : List D → Option (List Int)
  | [] => some []
  | .int b :: ds => (intsOf ds).map (b :: ·)
  | _ => none
theorem blsOf_eq : ∀ {ds : List D} {bs : List Bool}, blsOf ds = some bs → ds = bs.map D.bl
  | [], bs, h => by cases h; rfl
  | d :: ds, bs, h => by
    cases d <;> simp only [blsOf] at h <;> try (cases h; done)
    rename_i b
    cases q : blsOf ds with
    | none => rw [q] at h; cases h
    | some cs =>
      rw [q] at h
      cases h
      rw [blsOf_eq q]; rfl
theorem intsOf_eq : ∀ {ds : List D} {bs : List Int}, intsOf ds = some bs → ds = bs.map D.int
  | [], bs, h => by cases h; rfl
  | d :: ds, bs, h => by
    cases d <;> simp only [intsOf] at h <;> try (cases h; done)
    rename_i b
    cases q : intsOf ds with
    | none => rw [q] at h; cases h
    | some cs =>
      rw [q] at h
      cases h
      rw [intsOf_eq q]; rfl
theorem intsOf_map (ns : List Int) : intsOf (ns.map D.int) = some ns := by
  induction ns with
  | nil => rfl
  | cons n ns ih => simp [intsOf, ih]
theorem blsOf_map (ns : List Bool) : blsOf (ns.map D.bl) = some ns := by
  induction ns with
  | nil => rfl
  | cons n ns ih => simp [blsOf, ih]
theorem RepL.bls {K : PySem.W.Frag} {F : Hp} : ∀ {xs : List V} {bs : List Bool}, RepL K F xs (bs.map D.bl) → xs = bs.map V.bl
  | _, [], h => by cases h; rfl
  | _, b :: bs, h => by
    cases h with
    | cons r t => rw [r.bl_inv, RepL.bls t]; rfl
theorem RepL.ints {K : PySem.W.Frag} {F : Hp} : ∀ {xs : List V} {bs : List Int}, RepL K F xs (bs.map D.int) → xs = bs.map V.int
  | _, [], h => by cases h; rfl
  | _, b :: bs, h => by
    cases h with
    | cons r t => rw [r.int_inv, RepL.ints t]; rfl
theorem RepL.of_ints {K : PySem.W.Frag} {F : Hp} : ∀ (bs : List Int), RepL K F (bs.map V.int) (bs.map D.int)
  | [] => .nil
  | b :: bs => .cons (.int b) (RepL.of_ints bs)
@[simp] def allD : List D → Option D
  | [.lst ds] => (blsOf ds).map fun bs => .bl (bs.all id)
  | _ => none
@[simp] def anyD : List D → Option D
  | [.lst ds] => (blsOf ds).map fun bs => .bl (bs.any id)
  | _ => none
theorem cs_all (hc : X.calm = true) : CS X (.builtin "all") allD := by
  refine cs_of (cr_all hc) fun F H xs ds dz Q hF hx hf q => ?_
  unfold allD at hf
  split at hf
  · rename_i es
    cases hb : blsOf es with
    | none => rw [hb] at hf; cases hf
    | some bs =>
      rw [hb] at hf
      cases hf
      obtain ⟨v, rfl, r⟩ := hx.one_inv
      cases r with
      | lst hs hr =>
        rw [blsOf_eq hb] at hr
        exact ⟨_, bs, rfl, by rw [← hr.bls]; exact hF.seq hs, q _ F H (Gro.refl hF) (.bl _)⟩
  · cases hf
theorem cs_any (hc : X.calm = true) : CS X (.builtin "any") anyD := by
  refine cs_of (cr_any hc) fun F H xs ds dz Q hF hx hf q => ?_
  unfold anyD at hf
  split at hf
  · rename_i es
    cases hb : blsOf es with
    | none => rw [hb] at hf; cases hf
    | some bs =>
      rw [hb] at hf
      cases hf
      obtain ⟨v, rfl, r⟩ := hx.one_inv
      cases r with
      | lst hs hr =>
        rw [blsOf_eq hb] at hr
        exact ⟨_, bs, rfl, by rw [← hr.bls]; exact hF.seq hs, q _ F H (Gro.refl hF) (.bl _)⟩
  · cases hf

/-! ### tuple, list, sorted -/
@[simp] def tupleD : List D → Option D
  | [.lst ds] => some (.tup ds)
  | [.tup ds] => some (.tup ds)
  | _ => none
theorem cs_tuple : CS X (.type "tuple") tupleD := by
  intro pins s σ H F xs us ds dz Q I hF rx hx hf q
  unfold tupleD at hf
  split at hf
  · cases hf
    obtain ⟨v, rfl, r⟩ := hx.one_inv
    cases r with
    | @lst _ ys _ hs hr =>
      obtain ⟨u, rfl, ru⟩ := rx.one
      cases ru
      obtain ⟨its, rv, pl, hz⟩ := I.list (hF.seq hs)
      have hlen := rv.length
      refine call_tuple_list pl.isList (fun h' kp => ?_) (by simp only [List.size_toArray] <;> omega)
      have I1 : Inv X pins σ H { s with heap := h' } := I.kept (t' := s.toks) kp
      have hp := I1.hok.fresh (Nat.le_refl _)
      have G1 := Gro.lay (o := .frz { cls := .type "tuple", data := .seq its.toArray } (.tup ys)) (F := F) hF hp
      exact ⟨.ref h'.objs.size, _, lay_tup (tk := s.toks) I1 rv hz, rfl, q _ _ _ G1 (.tup (.inl ⟨_, upd_same, rfl⟩) (hr.mono G1.ff))⟩
  · cases hf
    obtain ⟨v, rfl, r⟩ := hx.one_inv
    cases r with
    | tup hs hr =>
      exact call_tupleT pins s σ H _ us Q I rx ⟨_, _, rfl, same_sqT hF hs.sqT, q _ F H (Gro.refl hF) (.tup hs hr)⟩
  · cases hf
@[simp] def listD : List D → Option (List D)
  | [.lst ds] => some ds
  | [.tup ds] => some ds
  | [.ptp ds] => some ds
  | _ => none
theorem cn_list : CN X (.type "list") listD := by
  refine cn_of call_list_of fun F H xs ds dz Q hF hx hf q => ?_
  unfold listD at hf
  split at hf
  · cases hf
    obtain ⟨v, rfl, r⟩ := hx.one_inv
    cases r with
    | lst hs hr => exact ⟨_, _, rfl, .inl (hF.seq hs), fun l hl => q l _ F H (Gro.refl hF) hl hr (hF.free hl) hl⟩
  · cases hf
    obtain ⟨v, rfl, r⟩ := hx.one_inv
    cases r with
    | tup hs hr => exact ⟨_, _, rfl, .inr (same_sqT hF hs.sqT), fun l hl => q l _ F H (Gro.refl hF) hl hr (hF.free hl) hl⟩
  · cases hf
    obtain ⟨v, rfl, r⟩ := hx.one_inv
    cases r with
    | ptp hs hr => exact ⟨_, _, rfl, .inr (same_sqT hF hs), fun l hl => q l _ F H (Gro.refl hF) hl hr (hF.free hl) hl⟩
  · cases hf
/-- the ints in order -/
def sortI (ns : List Int) : List Int := ns.mergeSort fun a b => decide (a ≤ b)
theorem sortI_perm (ns : List Int) : (sortI ns).Perm ns := List.mergeSort_perm ns _
theorem sortI_le (ns : List Int) : (sortI ns).Pairwise (· ≤ ·) := by
  have h := List.pairwise_mergeSort (le := fun (a b : Int) => decide (a ≤ b)) (fun a b c h1 h2 => by simp only [decide_eq_true_eq] at *; omega) (fun a b => by simp only [Bool.or_eq_true, decide_eq_true_eq]; omega) ns
  exact h.imp fun h => of_decide_eq_true h
theorem sortI_of {ns ms : List Int} (h1 : ms.Perm ns) (h2 : ms.Pairwise (· ≤ ·)) : ms = sortI ns := PySem.W.ksm_same (h1.trans (sortI_perm ns).symm) h2 (sortI_le ns)
@[simp] def sortedI : List D → Option (List D)
  | [.lst ds] => (intsOf ds).map fun ns => (sortI ns).map D.int
  | _ => none
theorem cn_sortedI : CN X (.builtin "sorted") sortedI := by
  refine cn_of cr_sortedI fun F H xs ds dz Q hF hx hf q => ?_
  unfold sortedI at hf
  split at hf
  · rename_i es
    cases hb : intsOf es with
    | none => rw [hb] at hf; cases hf
    | some ns =>
      rw [hb] at hf
      cases hf
      obtain ⟨v, rfl, r⟩ := hx.one_inv
      cases r with
      | lst hs hr =>
        rw [intsOf_eq hb] at hr
        refine ⟨_, ns, rfl, by rw [← hr.ints]; exact hF.seq hs, fun ns' p h1 h2 hp => ?_⟩
        refine q p _ F H (Gro.refl hF) hp ?_ (hF.free hp) hp
        rw [sortI_of h1 h2]
        exact RepL.of_ints _
  · cases hf

/-! ### slices -/
def eO (X : Cx) (o : Option Expr) (m : EM (Option Int)) : Prop := ∀ B W, B.K = X.K → Lk X B W → ∃ t : TO, PO X o t ∧ ∀ σ H (Q : Option Int → Hp → Prop), (∃ F ρ g QD, Rl B F ρ g σ H ∧ m ρ g QD (fun x g' => W x ρ g') ∧
  ∀ k H' F' g', Ste g H F g' H' F' → Rl B F' ρ g' σ H' → QD k g' → Q k H') → t σ H Q
@[simp] def oNone : EM (Option Int) := fun _ g Q _ => Q none g
@[simp] def oSome (m : EM D) : EM (Option Int) := fun ρ g Q E => m ρ g (fun d g' => match d with | .int i => Q (some i) g' | _ => False) E
theorem eo_none : eO X none oNone := fun B W hB L => ⟨_, po_none, fun σ H Q ⟨F, ρ, g, QD, R, w, q⟩ => q none H F g Ste.refl R w⟩
theorem eo_some (h : EV X a ma) : eO X (some a) (oSome ma) := fun B W hB L => ⟨_, po_some (h B W hB L), fun σ H Q ⟨F, ρ, g, QD, R, w, q⟩ => ⟨F, ρ, g, _, R, w, fun v H' F' g' d k R' r w' => by
  cases d with
  | int i => exact ⟨i, r.int_inv, q _ H' F' g' k R' w'⟩
  | _ => exact w'.elim⟩⟩
def cutG {α : Type} (xs : List α) (lo hi : Option Int) : List α := (xs.drop (HT.sIx xs.length 0 lo)).take (HT.sIx xs.length xs.length hi - HT.sIx xs.length 0 lo)
theorem RepL.cut {K : PySem.W.Frag} {F : Hp} {xs : List V} {ds : List D} (h : RepL K F xs ds) (lo hi : Option Int) : RepL K F (cutV xs lo hi) (cutG ds lo hi) := by
  unfold cutV cutG
  rw [h.length]
  exact (h.drop _).take _
@[simp] def sliceD (x : D) (lo hi : Option Int) : Option D := match x with
  | .tup ds => some (.tup (cutG ds lo hi))
  | .lst ds => some (.lst (cutG ds lo hi))
  | .str z => if z.length ≤ sizeLine then some (.str (cutS z lo hi)) else none
  | _ => none
def rSlD (K : PySem.W.Frag) : V → Option Int → Option Int → Hp → VK → Prop := fun x lo hi H Q => ∃ F dx dz, Same F H ∧ Rep K F x dx ∧ sliceD dx lo hi = some dz ∧ ∀ w F' H', Gro F H F' H' → Rep K F' w dz → Q w H'
theorem sl_D : L2.SlR X (rSlD X.K) := by
  intro pins s σ H x v vl vu lo hi sl Q I rx hs pl pu h
  obtain ⟨F, dx, dz, hF, hx, hf, q⟩ := h
  unfold sliceD at hf
  split at hf
  · cases hf
    cases hx with
    | @tup a xs ds ht hr =>
      have hT := same_sqT hF ht.sqT
      cases rx
      obtain ⟨its, r, p1, hz⟩ := I.tuple hT
      have hlen : its.toArray.size = xs.length := by rw [List.size_toArray]; exact r.length.symm
      refine ⟨"tuple", _, PyProof.Rows.slot_tuple_getitem.lookup, p1.typeIs, ?_⟩
      by_cases hw : HT.sIx xs.length 0 lo = 0 ∧ HT.sIx xs.length xs.length hi = xs.length
      · refine getItem_tuple_whole p1 hs pl pu (by rw [hlen]; exact hw) ⟨.ref a, H, I, rfl, q _ F H (Gro.refl hF) ?_⟩
        have e : ∀ ds : List D, xs.length = ds.length → cutG ds lo hi = ds := fun ds el => by
          unfold cutG
          rw [← el, hw.1, hw.2]
          rw [List.drop_zero, Nat.sub_zero, el, List.take_length]
        rw [e _ hr.length]
        exact .tup ht hr
      · refine HT.getItem_tuple_cut p1 hs pl pu (by rw [hlen]; exact hw) ?_ (by rw [hlen]; exact hz)
        rw [hlen]
        have hp := I.hok.fresh (Nat.le_refl s.heap.objs.size)
        have rv := (r.drop (HT.sIx xs.length 0 lo)).take (HT.sIx xs.length xs.length hi - HT.sIx xs.length 0 lo)
        have G1 := Gro.lay (o := .frz { cls := .type "tuple", data := .seq ((its.drop (HT.sIx xs.length 0 lo)).take (HT.sIx xs.length xs.length hi - HT.sIx xs.length 0 lo)).toArray } (.tup (cutV xs lo hi))) hF hp
        exact ⟨.ref s.heap.objs.size, _, lay_tup (tk := s.toks) I rv (Nat.le_trans (cutV_length xs lo hi) hz), rfl, q _ _ _ G1 (.tup (.inl ⟨_, upd_same, rfl⟩) ((hr.cut lo hi).mono G1.ff))⟩
  · cases hf
    cases hx with
    | @lst a xs ds ht hr =>
      refine sl_list pins s σ H _ v vl vu lo hi sl Q I rx hs pl pu ⟨a, xs, rfl, hF.seq ht, fun p hp => ?_⟩
      have G1 := Gro.lay (o := .lst (cutV xs lo hi)) hF hp
      exact q _ _ _ G1 (.lst (.inl (.inl upd_same)) ((hr.cut lo hi).mono G1.ff))
  · split at hf
    · rename_i hz
      cases hf
      cases hx.str_inv
      exact sl_str pins s σ H _ v vl vu lo hi sl Q I rx hs pl pu ⟨_, rfl, hz, q _ F H (Gro.refl hF) (.str _)⟩
    · cases hf
  · cases hf
@[simp] def eSl (m : EM D) (ml mh : EM (Option Int)) : EM D := fun ρ g Q E => m ρ g (fun x g1 => ml ρ g1 (fun lo g2 => mh ρ g2 (fun hi g3 => match sliceD x lo hi with | some z => Q z g3 | none => False) E) E) E
theorem ev_slice {lo hi : Option Expr} {ml mh : EM (Option Int)} {p2 : Pos} (ha : EV X a ma) (hl : eO X lo ml) (hh : eO X hi mh) : EV X (.Subscript a (.Slice lo hi none p2) pos) (eSl ma ml mh) := by
  intro B W hB L
  obtain ⟨tl, pl, wl⟩ := hl B W hB L
  obtain ⟨th, ph, wh⟩ := hh B W hB L
  refine pe_mono (pe_slice sl_D (ha B W hB L) pl ph) ?_
  rintro σ H Q ⟨F, ρ, g, QD, R, w, q⟩
  refine ⟨F, ρ, g, _, R, w, ?_⟩
  intro v1 H1 F1 g1 d1 k1 R1 r1 w1
  refine wl σ H1 _ ⟨F1, ρ, g1, _, R1, w1, ?_⟩
  intro lo H2 F2 g2 k2 R2 w2
  refine wh σ H2 _ ⟨F2, ρ, g2, _, R2, w2, ?_⟩
  intro hi H3 F3 g3 k3 R3 w3
  cases hf : sliceD d1 lo hi with
  | none => rw [hf] at w3; exact w3.elim
  | some z =>
    rw [hf] at w3
    exact ⟨F3, d1, z, R3.fh, by rw [← hB]; exact r1.mono (k2.trans k3).ff, hf, fun w F' H' G1 rw' => q w H' F' g3 z (((k1.trans k2).trans k3).trans G1.ste) (R3.gro G1) (by rw [hB]; exact rw') w3⟩
/-- xs[lo:hi] of a list, for a name of its own -/
@[simp] def nSl (m : EM D) (ml mh : EM (Option Int)) : EM (List D) := fun ρ g Q E => m ρ g (fun x g1 => ml ρ g1 (fun lo g2 => mh ρ g2 (fun hi g3 => match x with | .lst ds => Q (cutG ds lo hi) g3 | _ => False) E) E) E
theorem en_slice {lo hi : Option Expr} {ml mh : EM (Option Int)} {p2 : Pos} (ha : EV X a ma) (hl : eO X lo ml) (hh : eO X hi mh) : EN X (.Subscript a (.Slice lo hi none p2) pos) (nSl ma ml mh) := by
  intro B W hB L
  obtain ⟨tl, pl, wl⟩ := hl B W hB L
  obtain ⟨th, ph, wh⟩ := hh B W hB L
  refine pe_mono (pe_slice sl_list (ha B W hB L) pl ph) ?_
  rintro σ H Q ⟨F, ρ, g, QD, R, w, q⟩
  refine ⟨F, ρ, g, _, R, w, ?_⟩
  intro v1 H1 F1 g1 d1 k1 R1 r1 w1
  refine wl σ H1 _ ⟨F1, ρ, g1, _, R1, w1, ?_⟩
  intro lo H2 F2 g2 k2 R2 w2
  refine wh σ H2 _ ⟨F2, ρ, g2, _, R2, w2, ?_⟩
  intro hi H3 F3 g3 k3 R3 w3
  have r3 := r1.mono (k2.trans k3).ff
  cases r3 with
  | @lst a xs ds hs hr =>
    rw [hB] at hs
    refine ⟨a, xs, rfl, R3.fh.seq hs, fun p hp => ?_⟩
    have G1 := Gro.lay0 (o := .lst (cutV xs lo hi)) R3.fh hp
    have k := (k1.trans k2).trans k3
    exact q p _ _ F3 g3 _ (k.trans G1.ste) (R3.gro G1) (k.none hp) upd_same (R3.fh.free hp) (R3.fresh_g hp) (R3.fresh_0 hp) (R3.fresh_s hp) (hr.cut lo hi) w3
  | _ => exact w3.elim

/-! ### zip in a loop or a comprehension -/
@[simp] def zipL : List D → List D → List D
  | x :: xs, y :: ys => .ptp [x, y] :: zipL xs ys
  | _, _ => []
theorem zipL_length : ∀ xs ys : List D, (zipL xs ys).length = min xs.length ys.length
  | [], ys => by simp [zipL]
  | x :: xs, [] => by simp [zipL]
  | x :: xs, y :: ys => by simp [zipL, zipL_length xs ys]
theorem zipL_get : ∀ (xs ys : List D) (i : Nat) (x y : D), xs[i]? = some x → ys[i]? = some y → (zipL xs ys)[i]? = some (.ptp [x, y])
  | [], _, _, _, _, h, _ => by simp at h
  | _ :: _, [], _, _, _, _, h => by simp at h
  | a :: xs, b :: ys, 0, x, y, h1, h2 => by simp at h1 h2; subst h1 h2; rfl
  | a :: xs, b :: ys, i + 1, x, y, h1, h2 => zipL_get xs ys i x y (by simpa using h1) (by simpa using h2)
@[simp] def zipD : List D → Option (List D)
  | [.tup xs, .tup ys] => some (zipL xs ys)
  | [.lst xs, .lst ys] => some (zipL xs ys)
  | _ => none
@[simp] def iZip (ms : EM (List D)) : EM (List D) := fun ρ g Q E => ms ρ g (fun xs g1 => match zipD xs with | some ds => Q ds g1 | none => False) E
theorem walk_zipD {K : PySem.W.Frag} {J : It} {F : Hp} {us vs : List V} {xs ys : List D} (hx : RepL K F us xs) (hy : RepL K F vs ys) (goes : ∀ i H, i < (zipL xs ys).length → Same F H → J.go i H) (stops : ∀ H, Same F H → J.stop (zipL xs ys).length H)
    (yl : ∀ i H x H', Same F H → J.yld i H x H' → ∃ T u v, x = .ref T ∧ H T = none ∧ H' = upd H T (.tup [u, v]) ∧ us[i]? = some u ∧ vs[i]? = some v) : WalkD K J F (zipL xs ys) := by
  refine ⟨goes, stops, fun i H F1 x H' hi h1 h2 y => ?_⟩
  obtain ⟨T, u, v, rfl, hT, rfl, e1, e2⟩ := yl i H x H' (h1.trans h2) y
  obtain ⟨dx, f1, r1⟩ := hx.getV e1
  obtain ⟨dy, f2, r2⟩ := hy.getV e2
  have G1 := Gro.lay (o := .tup [u, v]) h2 hT
  exact ⟨_, _, zipL_get xs ys i dx dy f1 f2, G1, .ptp (.inl (.inl upd_same)) (.cons (r1.mono (h1.trans G1.ff)) (.cons (r2.mono (h1.trans G1.ff)) .nil))⟩
theorem ei_zip {e e2 : Expr} {p tpos : Pos} {elts : List Expr} {kk : Nat} (hg : Gl X "zip") (hm : X.mg "zip" = none) (ha : EVs X [e, e2] ms)
    (hs : starEach [e, e2] X.env = (false, eval e X.env) :: starEach [e2] X.env := by rfl) (hpl : (backTo pos (starEach [e2] X.env)).any (·.1) = false := by rfl) :
    EI X (.Tuple elts kk tpos) (.Call (.Name "zip" p) [e, e2] [] pos) (iZip ms) := by
  intro B W hB L
  refine pi_mono (RZ.pi_zipA hg hm (ha B W hB L) hs hpl) ?_
  rintro σ H Q ⟨F, ρ, g, QD, R, w, q⟩
  refine ⟨F, ρ, g, _, R, w, ?_⟩
  intro vs H1 F1 g1 ds k1 R1 r1 w1
  unfold zipD at w1
  split at w1
  · rename_i zs hz
    split at hz
    · cases hz
      obtain ⟨v, v', rfl, r, r'⟩ := r1.two_inv
      cases r with
      | @tup a us xs hs hr =>
        cases r' with
        | @tup b us' ys hs' hr' =>
          have h1 : ∀ {H : Hp}, Same F1 H → SqT X.K H a us := fun z => by rw [← hB]; exact same_sqT z hs.sqT
          have h2 : ∀ {H : Hp}, Same F1 H → SqT X.K H b us' := fun z => by rw [← hB]; exact same_sqT z hs'.sqT
          refine ⟨a, b, us, us', rfl, .inr ⟨h1 R1.fh, h2 R1.fh, q _ H1 F1 g1 _ k1 R1 (walk_zipD hr hr' (fun i H hi z => ?_) (fun H z => ?_) fun i H x H' z y => ?_) w1⟩⟩
          · rw [zipL_length, ← hr.length, ← hr'.length] at hi
            exact ⟨us, us', us[i]'(by omega), us'[i]'(by omega), h1 z, h2 z, List.getElem?_eq_getElem _, List.getElem?_eq_getElem _⟩
          · refine ⟨us, us', h1 z, h2 z, ?_⟩
            rw [zipL_length, ← hr.length, ← hr'.length]
            omega
          · obtain ⟨T, u, v, e, hT, e', f1, f2⟩ := y
            exact ⟨T, u, v, e, hT, e', f1 us (h1 z), f2 us' (h2 z)⟩
    · cases hz
      obtain ⟨v, v', rfl, r, r'⟩ := r1.two_inv
      cases r with
      | @lst a us xs hs hr =>
        cases r' with
        | @lst b us' ys hs' hr' =>
          have h1 : ∀ {H : Hp}, Same F1 H → SqL X.K H a us := fun z => by rw [← hB]; exact z.seq hs
          have h2 : ∀ {H : Hp}, Same F1 H → SqL X.K H b us' := fun z => by rw [← hB]; exact z.seq hs'
          refine ⟨a, b, us, us', rfl, .inl ⟨h1 R1.fh, h2 R1.fh, q _ H1 F1 g1 _ k1 R1 (walk_zipD hr hr' (fun i H hi z => ?_) (fun H z => ?_) fun i H x H' z y => ?_) w1⟩⟩
          · rw [zipL_length, ← hr.length, ← hr'.length] at hi
            exact ⟨us, us', us[i]'(by omega), us'[i]'(by omega), h1 z, h2 z, List.getElem?_eq_getElem _, List.getElem?_eq_getElem _⟩
          · refine ⟨us, us', h1 z, h2 z, ?_⟩
            rw [zipL_length, ← hr.length, ← hr'.length]
            omega
          · obtain ⟨T, u, v, e, hT, e', f1, f2⟩ := y
            exact ⟨T, u, v, e, hT, e', f1 us (h1 z), f2 us' (h2 z)⟩
    · cases hz
  · exact w1.elim
end
end DL

set_option Elab.async false
set_option linter.all false
set_option maxRecDepth 100000
/-! DL9: own lists changed; pairs stored. -/
namespace DL
open PySem PySem.Spec PyProof.Rows L2
section
variable {X : Cx} {a b c e : Expr} {es : List Expr} {ma mb m : EM D} {ms : EM (List D)} {pos : Pos}

theorem set_key {ρ : Rho} {i j : Nat} {s t : Sl} (e : (ρ.set i t)[j]? = some s) : (i = j ∧ i < ρ.length ∧ s = t) ∨ (i ≠ j ∧ ρ[j]? = some s) := by
  by_cases h : i = j
  · subst h
    have hl : i < ρ.length := by
      have := (List.getElem?_eq_some_iff.mp e).1
      rwa [List.length_set] at this
    rw [List.getElem?_set_self hl] at e
    exact .inl ⟨rfl, hl, (Option.some.inj e).symm⟩
  · rw [List.getElem?_set_ne h] at e
    exact .inr ⟨h, e⟩
/-- an own list changes -/
theorem Rl.accUpd {B : Bs} {F : Hp} {ρ : Rho} {g : G} {σ : L2.St} {H : Hp} (R : Rl B F ρ g σ H) {i : Nat} {p : Addr} {ds ds' : List D} {ys : List V} (hi : ρ[i]? = some (.acc ds)) (hp : σ[i]? = some (some (.ref p))) (r : RepL B.K F ys ds') :
    Rl B F (ρ.set i (.acc ds')) g σ (upd H p (.lst ys)) := by
  obtain ⟨p', xs, e1, h1, h2, h3, h4, h5⟩ := R.sl i _ hi
  rw [hp] at e1
  cases e1
  refine ⟨fun a u e => by rw [upd_ne (ne_of_none e h3)]; exact R.fh a u e, R.f0, R.fn, fun a u e => by rw [upd_ne (ne_of_none e h5)]; exact R.dm a u e, fun a u e n => by rw [upd_ne (ne_of_none e h5)]; exact R.fr a u e n, fun a u e => ?_, fun j s e => ?_, fun j k a es fs e1 e2 e3 e4 => ?_, by rw [List.length_set]; exact R.ln⟩
  · obtain ⟨q1, q2, q3⟩ := R.gg a u e
    refine ⟨q1.heap (fun b w gb _ z => ?_) e, q2, q3⟩
    rw [upd_ne (fun y => by subst y; rw [h4] at gb; cases gb)]
    exact z
  · rcases set_key e with ⟨rfl, hl, rfl⟩ | ⟨hne, e'⟩
    · exact ⟨p, ys, hp, upd_same, r, h3, h4, h5⟩
    · have h := R.sl j s e'
      cases s with
      | no => trivial
      | val d => exact h
      | acc es =>
        obtain ⟨a, zs, f1, f2, f3⟩ := h
        refine ⟨a, zs, f1, ?_, f3⟩
        rw [upd_ne (fun y => by subst y; exact hne (R.dj i j _ ds es hi e' hp f1))]
        exact f2
  · have at_ : ∀ {j : Nat} {es : List D}, (ρ.set i (.acc ds'))[j]? = some (.acc es) → ∃ fs, ρ[j]? = some (.acc fs) := fun e => by
      rcases set_key e with ⟨rfl, _, _⟩ | ⟨_, e'⟩
      · exact ⟨ds, hi⟩
      · exact ⟨_, e'⟩
    obtain ⟨fs1, q1⟩ := at_ e1
    obtain ⟨fs2, q2⟩ := at_ e2
    exact R.dj j k a fs1 fs2 q1 q2 e3 e4

/-! ### expressions that change own lists -/
abbrev XM (α : Type) := Rho → G → (α → Rho → G → Prop) → (Exn → Rho → G → Prop) → Prop
def tX (B : Bs) (W : Wi) (m : XM D) : TE := fun σ H Q => ∃ F ρ g QD, Rl B F ρ g σ H ∧ m ρ g QD W ∧
  ∀ v H' F' ρ' g' d, Same F F' → Rl B F' ρ' g' σ H' → Rep B.K F' v d → QD d ρ' g' → Q v H'
def EX (X : Cx) (e : Expr) (m : XM D) : Prop := ∀ B W, B.K = X.K → Lk X B W → PE X e (tX B W m)
@[simp] def xV (m : EM D) : XM D := fun ρ g Q E => m ρ g (fun d g' => Q d ρ g') (fun x g' => E x ρ g')
theorem ex_v (h : EV X e m) : EX X e (xV m) := by
  intro B W hB L
  refine pe_mono (h B W hB L) ?_
  rintro σ H Q ⟨F, ρ, g, QD, R, w, q⟩
  exact ⟨F, ρ, g, _, R, w, fun v H' F' g' d k R' r w' => q v H' F' ρ g' d k.ff R' r w'⟩
@[simp] def xPop (i : Nat) : XM D := fun ρ g Q _ => match ρ[i]? with
  | some (.acc ds) => match ds[ds.length - 1]? with | some d => Q d (ρ.set i (.acc ds.dropLast)) g | none => False
  | _ => False
theorem pv_acc {i : Nat} {x : Str} {pos : Pos} (hN : X.N[i]? = some x) (hv : Vis X.env.scope x) (hd : (x == ("__debug__" : Str)) = false := by decide) (hcd : (x == ("__classdict__" : Str)) = false := by decide) : PE X (.Name x pos) (tVar i) := pe_var hN hv hd hcd
theorem RepL.dropLast {K : PySem.W.Frag} {F : Hp} {xs : List V} {ds : List D} (h : RepL K F xs ds) : RepL K F xs.dropLast ds.dropLast := by
  rw [List.dropLast_eq_take, List.dropLast_eq_take, h.length]
  exact h.take _
theorem RepL.eraseIdx {K : PySem.W.Frag} {F : Hp} : ∀ {xs : List V} {ds : List D} (k : Nat), RepL K F xs ds → RepL K F (xs.eraseIdx k) (ds.eraseIdx k)
  | _, _, _, .nil => .nil
  | _, _, 0, .cons _ t => t
  | _, _, k + 1, .cons r t => .cons r (RepL.eraseIdx k t)
theorem ex_pop {i : Nat} {x : Str} {p apos cpos : Pos} (hN : X.N[i]? = some x := by rfl) (hv : Vis X.env.scope x := by first | exact Or.inl rfl | exact Or.inr (Or.inl rfl) | exact Or.inr (Or.inr rfl)) (hd : (x == ("__debug__" : Str)) = false := by decide) (hcd : (x == ("__classdict__" : Str)) = false := by decide)
    (hbase : attributeBase (.Name x p) "pop" X.env (eval (.Name x p) X.env) = eval (.Name x p) X.env := by rfl) (hline : (apos.endLine == cpos.line) = true := by rfl) : EX X (.Call (.Attribute (.Name x p) "pop" apos) [] [] cpos) (xPop i) := by
  intro B W hB L
  refine pe_mono (pe_bm0 PySem.F.plainAttrs_list PySem.F.slot_list_pop PySem.F.type_list_pop mt_pop (pe_var (i := i) hN hv hd hcd) hbase hline) ?_
  rintro σ H Q ⟨F, ρ, g, QD, R, w, q⟩
  unfold xPop at w
  split at w
  · rename_i ds hi
    split at w
    · rename_i d hd
      obtain ⟨a, xs, e1, h1, h2, h3, h4, h5⟩ := R.sl i _ hi
      obtain ⟨v, hv, r⟩ := h2.get hd
      refine ⟨.ref a, e1, .inl ⟨rfl, _, SqL.of h1⟩, a, xs, v, rfl, rfl, h1, by rw [h2.length]; exact hv, ?_⟩
      exact q v _ F _ g d (Same.refl F) (R.accUpd hi e1 h2.dropLast) r w
    · exact w.elim
  · exact w.elim
@[simp] def xPopAt (i : Nat) (m : EM D) : XM D := fun ρ g Q E => match ρ[i]? with
  | some (.acc ds) => m ρ g (fun k g' => match k with
    | .int z => (-(2 ^ 63) ≤ z ∧ z < 2 ^ 63) ∧ match seqIndex? z ds.length with
      | some k => match ds[k]? with | some d => Q d (ρ.set i (.acc (ds.eraseIdx k))) g' | none => False
      | none => False
    | _ => False) (fun x g' => E x ρ g')
  | _ => False
theorem ex_popAt {i : Nat} {x : Str} {p apos cpos : Pos} (ha : EV X a m) (hN : X.N[i]? = some x := by rfl) (hv : Vis X.env.scope x := by first | exact Or.inl rfl | exact Or.inr (Or.inl rfl) | exact Or.inr (Or.inr rfl)) (hd : (x == ("__debug__" : Str)) = false := by decide) (hcd : (x == ("__classdict__" : Str)) = false := by decide)
    (hbase : attributeBase (.Name x p) "pop" X.env (eval (.Name x p) X.env) = eval (.Name x p) X.env := by rfl)
    (hfew : ((backTo cpos (starEach [a] X.env)).all (fun x => !x.1) && (backToKw cpos (keywordEach [] X.env)).all (fun x => x.1.isSome)
      && decide ([a].length + ([] : List Keyword).length + (if ([] : List Keyword).isEmpty then 0 else 1) < 30)) = true := by rfl)
    (hline : (apos.endLine == cpos.line) = true := by rfl) (hs : starEach [a] X.env = (false, eval a X.env) :: starEach [] X.env := by rfl) (hplain : (backTo cpos (starEach [] X.env)).any (·.1) = false := by rfl) :
    EX X (.Call (.Attribute (.Name x p) "pop" apos) [a] [] cpos) (xPopAt i m) := by
  intro B W hB L
  refine pe_mono (pe_bm PySem.F.plainAttrs_list PySem.F.slot_list_pop PySem.F.type_list_pop mt_popAt (pe_var (i := i) hN hv hd hcd) (pa_cons (ha B W hB L) pa_nil hs) hbase hfew hline hs hplain) ?_
  rintro σ H Q ⟨F, ρ, g, QD, R, w, q⟩
  unfold xPopAt at w
  split at w
  · rename_i ds hi
    obtain ⟨a0, xs0, e0, h0, _⟩ := R.sl i _ hi
    refine ⟨.ref a0, e0, .inl ⟨rfl, _, SqL.of h0⟩, F, ρ, g, _, R, w, ?_⟩
    intro v1 H1 F1 g1 d1 k1 R1 r1 w1
    cases d1 with
    | int z =>
      obtain ⟨⟨z1, z2⟩, w1⟩ := w1
      split at w1
      · rename_i k hk
        split at w1
        · rename_i d hd
          obtain ⟨a, xs, e1, h1, h2, h3, h4, h5⟩ := R1.sl i _ hi
          rw [e0] at e1
          cases e1
          obtain ⟨v, hv, r⟩ := h2.get hd
          refine ⟨a0, xs, z, k, v, rfl, by rw [r1.int_inv], h1, z1, z2, by rw [h2.length]; exact hk, hv, ?_⟩
          exact q v _ F1 _ g1 d k1.ff (R1.accUpd hi e0 (h2.eraseIdx k)) r w1
        · exact w1.elim
      · exact w1.elim
    | _ => exact w1.elim
  · exact w.elim

/-! ### statements that change own lists -/
@[simp] def sApp (i : Nat) (m : XM D) : SM := fun DD W ρ g => (∃ es, ρ[i]? = some (.acc es)) ∧ m ρ g (fun d ρ' g' => match ρ'[i]? with
  | some (.acc ds) => ds.length < sizeLine ∧ DD.nx (ρ'.set i (.acc (ds ++ [d]))) g'
  | _ => False) W
theorem sv_app {i : Nat} {x : Str} {p apos cpos spos : Pos} {m : XM D} (ha : EX X a m) (hN : X.N[i]? = some x := by rfl) (hv : Vis X.env.scope x := by first | exact Or.inl rfl | exact Or.inr (Or.inl rfl) | exact Or.inr (Or.inr rfl)) (hd : (x == ("__debug__" : Str)) = false := by decide) (hcd : (x == ("__classdict__" : Str)) = false := by decide)
    (hbase : attributeBase (.Name x p) "append" X.env (eval (.Name x p) X.env) = eval (.Name x p) X.env := by rfl)
    (hfew : ((backTo cpos (starEach [a] X.env)).all (fun x => !x.1) && (backToKw cpos (keywordEach [] X.env)).all (fun x => x.1.isSome)
      && decide ([a].length + ([] : List Keyword).length + (if ([] : List Keyword).isEmpty then 0 else 1) < 30)) = true := by rfl)
    (hline : (apos.endLine == cpos.line) = true := by rfl) (hs : starEach [a] X.env = (false, eval a X.env) :: starEach [] X.env := by rfl) (hplain : (backTo cpos (starEach [] X.env)).any (·.1) = false := by rfl)
    (hsw : swapsWith (.Call (.Attribute (.Name x p) "append" apos) [a] [] cpos) none spos.line X.env = pure false := by rfl) :
    SV X (.Expr (.Call (.Attribute (.Name x p) "append" apos) [a] [] cpos) spos) (sApp i m) := by
  intro B W hB L
  refine ps_mono (ps_expr (pe_bm PySem.F.plainAttrs_list PySem.F.slot_list_append PySem.F.type_list_append mt_append (pe_var (i := i) hN hv hd hcd) (pa_cons (ha B W hB L) pa_nil hs) hbase hfew hline hs hplain) hsw) ?_
  rintro D σ H ⟨F, ρ, g, DD, R, ⟨⟨es, hi⟩, w⟩, q⟩
  obtain ⟨a0, xs0, e0, h0, _⟩ := R.sl i _ hi
  refine ⟨.ref a0, e0, .inl ⟨rfl, _, SqL.of h0⟩, F, ρ, g, _, R, w, ?_⟩
  intro v1 H1 F1 ρ1 g1 d1 k1 R1 r1 w1
  split at w1
  · rename_i ds hi1
    obtain ⟨a1, xs, e1, h1, h2, h3, h4, h5⟩ := R1.sl i _ hi1
    rw [e0] at e1
    cases e1
    refine ⟨a0, xs, v1, rfl, rfl, h1, by rw [h2.length]; exact w1.1, ?_⟩
    exact q.nx σ _ F1 _ g1 k1 (R1.accUpd hi1 e0 (h2.append (.one r1))) w1.2
  · exact w1.elim
@[simp] def sExt (i : Nat) (m : EM (List D)) : SM := fun DD W ρ g => match ρ[i]? with
  | some (.acc ds) => m ρ g (fun es g' => ds.length + es.length ≤ sizeLine ∧ DD.nx (ρ.set i (.acc (ds ++ es))) g') (fun x g' => W x ρ g')
  | _ => False
theorem sv_ext {i : Nat} {x : Str} {p apos cpos spos : Pos} {m : EM (List D)} (ha : EN X a m) (hN : X.N[i]? = some x := by rfl) (hv : Vis X.env.scope x := by first | exact Or.inl rfl | exact Or.inr (Or.inl rfl) | exact Or.inr (Or.inr rfl)) (hd : (x == ("__debug__" : Str)) = false := by decide) (hcd : (x == ("__classdict__" : Str)) = false := by decide)
    (hbase : attributeBase (.Name x p) "extend" X.env (eval (.Name x p) X.env) = eval (.Name x p) X.env := by rfl)
    (hfew : ((backTo cpos (starEach [a] X.env)).all (fun x => !x.1) && (backToKw cpos (keywordEach [] X.env)).all (fun x => x.1.isSome)
      && decide ([a].length + ([] : List Keyword).length + (if ([] : List Keyword).isEmpty then 0 else 1) < 30)) = true := by rfl)
    (hline : (apos.endLine == cpos.line) = true := by rfl) (hs : starEach [a] X.env = (false, eval a X.env) :: starEach [] X.env := by rfl) (hplain : (backTo cpos (starEach [] X.env)).any (·.1) = false := by rfl)
    (hsw : swapsWith (.Call (.Attribute (.Name x p) "extend" apos) [a] [] cpos) none spos.line X.env = pure false := by rfl) :
    SV X (.Expr (.Call (.Attribute (.Name x p) "extend" apos) [a] [] cpos) spos) (sExt i m) := by
  intro B W hB L
  refine ps_mono (ps_expr (pe_bm PySem.F.plainAttrs_list PySem.F.slot_list_extend PySem.F.type_list_extend mt_extend (pe_var (i := i) hN hv hd hcd) (pa_cons (ha B W hB L) pa_nil hs) hbase hfew hline hs hplain) hsw) ?_
  rintro D σ H ⟨F, ρ, g, DD, R, w, q⟩
  unfold sExt at w
  split at w
  · rename_i ds hi
    obtain ⟨a0, xs0, e0, h0, _⟩ := R.sl i _ hi
    refine ⟨.ref a0, e0, .inl ⟨rfl, _, SqL.of h0⟩, F, ρ, g, _, R, w, ?_⟩
    intro p1 ys H1 F1 g1 es k1 R1 hn h1 hf hg hh hs r1 w1
    obtain ⟨a1, xs, e1, h2, h3, h4, h5, h6⟩ := R1.sl i _ hi
    rw [e0] at e1
    cases e1
    refine ⟨a0, p1, xs, ys, rfl, rfl, h2, h1, by rw [h3.length, r1.length]; exact w1.1, ?_⟩
    exact q.nx σ _ F1 _ g1 k1.ff (R1.accUpd hi e0 (h3.append r1)) w1.2
  · exact w.elim
/-- x[k] = v -/
@[simp] def sPut (i : Nat) (mk mv : EM D) : SM := fun DD W ρ g => mv ρ g (fun d g1 => match ρ[i]? with
  | some (.acc ds) => mk ρ g1 (fun k g2 => match k with
    | .int z => (match ixN ds.length z with | some (j : Nat) => DD.nx (ρ.set i (.acc (ds.set j d))) g2 | none => False)
    | _ => False) (fun x g' => W x ρ g')
  | _ => False) (fun x g' => W x ρ g')
theorem sv_put {i : Nat} {x : Str} {p tpos : Pos} {mk : EM D} (hv : EV X a m) (hk : EV X b mk) (hN : X.N[i]? = some x := by rfl) (hvs : Vis X.env.scope x := by first | exact Or.inl rfl | exact Or.inr (Or.inl rfl) | exact Or.inr (Or.inr rfl)) (hd : (x == ("__debug__" : Str)) = false := by decide) (hcd : (x == ("__classdict__" : Str)) = false := by decide)
    (ha : ∀ v, assign (.Subscript (.Name x p) b tpos) X.env v = (do
      let ov ← holding [v] (eval (.Name x p) X.env)
      let iv ← holding [v, ov] (eval b X.env)
      standAt tpos
      holding [v, ov, iv] (setItem ov iv v)
      release [v, ov, iv] []) := by intro _; rfl)
    (hs : swapsWithSole [.Subscript (.Name x p) b tpos] a pos.line X.env = pure false := by rfl) (hw : swappedStores [.Subscript (.Name x p) b tpos] a X.env = pure none := by rfl)
    (h1 : (assignEach [.Subscript (.Name x p) b tpos] X.env).map (·.2) = [assign (.Subscript (.Name x p) b tpos) X.env] := by rfl) : SV X (.Assign [.Subscript (.Name x p) b tpos] a pos) (sPut i mk m) := by
  intro B W hB L
  refine ps_mono (ps_asg (hv B W hB L) (pg_sub (pe_var (i := i) hN hvs hd hcd) (hk B W hB L) set_list ha) hs hw h1) ?_
  rintro D σ H ⟨F, ρ, g, DD, R, w, q⟩
  refine ⟨F, ρ, g, _, R, w, ?_⟩
  intro v1 H1 F1 g1 d1 k1 R1 r1 w1
  split at w1
  · rename_i ds hi
    obtain ⟨a0, xs0, e0, h0, _⟩ := R1.sl i _ hi
    refine ⟨.ref a0, e0, F1, ρ, g1, _, R1, w1, ?_⟩
    intro v2 H2 F2 g2 d2 k2 R2 r2 w2
    cases d2 with
    | int z =>
      replace w2 : (match ixN ds.length z with | some (j : Nat) => DD.nx (ρ.set i (.acc (ds.set j d1))) g2 | none => False) := w2
      split at w2
      · rename_i j hj
        obtain ⟨a1, xs, e1, h2, h3, h4, h5, h6⟩ := R2.sl i _ hi
        rw [e0] at e1
        cases e1
        refine ⟨a0, xs, z, j, rfl, r2.int_inv, h2, by rw [h3.length]; exact hj, ?_⟩
        exact q.nx σ _ F2 _ g2 (fun c o z => k2.ff c o (k1.ff c o z)) (R2.accUpd hi e0 (h3.set (r1.mono k2.ff) j)) w2
      · exact w2.elim
    | _ => exact w2.elim
  · exact w1.elim
/-- name = .., target = .., .. where the expression changes own lists -/
@[simp] def sXset (i : Nat) (m : XM D) : SM := fun DD W ρ g => m ρ g (fun d ρ' g' => DD.nx (ρ'.set i (.val d)) g') W
theorem sv_xset {i : Nat} {x : Str} {pos' : Pos} {m : XM D} (hN : X.N.Nodup) (he : EX X e m) (hi : X.N[i]? = some x := by rfl) (hx : Loc X.env.scope x := by first | exact Or.inl rfl | exact Or.inr rfl) (hs : swapsWith e (some (.Name x pos')) pos.line X.env = pure false := by rfl) (hf : X.fn x = true ∨ X.env.scope.names.lookup x = some .local := by first | exact .inl rfl | exact .inr rfl | assumption) :
    SV X (.Assign [.Name x pos'] e pos) (sXset i m) := by
  intro B W hB L
  refine ps_mono (ps_set (i := i) hN hi hx (he B W hB L) hs hf) ?_
  rintro D σ H ⟨F, ρ, g, DD, R, w, q⟩
  exact ⟨F, ρ, g, _, R, w, fun v H' F' ρ' g' d k R' r w' => q.nx _ H' F' _ g' k (R'.set i r) w'⟩
@[simp] def sXasg (τ : Tg) (m : XM D) : SM := fun DD W ρ g => m ρ g (fun d ρ' g' => match τ.bd d ρ' with | some ρ2 => DD.nx ρ2 g' | none => False) W
theorem sv_xasg {tg : Expr} {τ : Tg} {m : XM D} (hg : EG X tg τ) (he : EX X e m) (hs : swapsWithSole [tg] e pos.line X.env = pure false := by rfl) (hw : swappedStores [tg] e X.env = pure none := by rfl)
    (h1 : (assignEach [tg] X.env).map (·.2) = [assign tg X.env] := by rfl) : SV X (.Assign [tg] e pos) (sXasg τ m) := by
  intro B W hB L
  refine ps_mono (ps_asg (he B W hB L) hg hs hw h1) ?_
  rintro D σ H ⟨F, ρ, g, DD, R, w, q⟩
  refine ⟨F, ρ, g, _, R, w, fun v H' F' ρ' g' d k R' r w' => ?_⟩
  cases hb : τ.bd d ρ' with
  | none => rw [hb] at w'; exact w'.elim
  | some ρ2 =>
    rw [hb] at w'
    rw [← hB]
    exact tg_w R' r hb fun σ' R2 _ => q.nx σ' H' F' ρ2 g' k R2 w'
@[simp] def sXdrop (m : XM D) : SM := fun DD W ρ g => m ρ g (fun _ ρ' g' => DD.nx ρ' g') W
theorem sv_xexpr {m : XM D} (he : EX X e m) (hs : swapsWith e none pos.line X.env = pure false := by rfl) : SV X (.Expr e pos) (sXdrop m) := by
  intro B W hB L
  refine ps_mono (ps_expr (he B W hB L) hs) ?_
  rintro D σ H ⟨F, ρ, g, DD, R, w, q⟩
  exact ⟨F, ρ, g, _, R, w, fun v H' F' ρ' g' d k R' r w' => q.nx σ H' F' ρ' g' k R' w'⟩

/-! ### a, b = e1, e2 with both sides written -/
def accA : List V → List Sl → List Addr
  | .ref a :: vs, .acc _ :: ss => a :: accA vs ss
  | _ :: vs, _ :: ss => accA vs ss
  | _, _ => []
/-- what comes for a name: a value or an own list -/
inductive KL (B : Bs) (F : Hp) (g : G) (H : Hp) (ρ : Rho) (σ : L2.St) : List V → List Sl → Prop
  | nil : KL B F g H ρ σ [] []
  | val {v : V} {d : D} {vs : List V} {ss : List Sl} : Rep B.K F v d → KL B F g H ρ σ vs ss → KL B F g H ρ σ (v :: vs) (.val d :: ss)
  | acc {a : Addr} {xs : List V} {ds : List D} {vs : List V} {ss : List Sl} : H a = some (.lst xs) → RepL B.K F xs ds → F a = none → g a = none → B.H0 a = none →
      (∀ (i : Nat) (es : List D), ρ[i]? = some (.acc es) → σ[i]? ≠ some (some (.ref a))) → a ∉ accA vs ss → KL B F g H ρ σ vs ss → KL B F g H ρ σ (.ref a :: vs) (.acc ds :: ss)
theorem KL.length {B : Bs} {F : Hp} {g : G} {H : Hp} {ρ : Rho} {σ : L2.St} : ∀ {vs : List V} {ss : List Sl}, KL B F g H ρ σ vs ss → vs.length = ss.length
  | _, _, .nil => rfl
  | _, _, .val _ t => by simp [KL.length t]
  | _, _, .acc _ _ _ _ _ _ _ t => by simp [KL.length t]
def tK (B : Bs) (W : Wi) (m : EM (List Sl)) : TA := fun σ H Q => ∃ F ρ g QD, Rl B F ρ g σ H ∧ m ρ g QD (fun x g' => W x ρ g') ∧
  ∀ vs H' F' g' ss, Ste g H F g' H' F' → Rl B F' ρ g' σ H' → KL B F' g' H' ρ σ vs ss → (∀ a ∈ accA vs ss, H a = none) → QD ss g' → Q vs H'
def EKs (X : Cx) (es : List Expr) (m : EM (List Sl)) : Prop := ∀ B W, B.K = X.K → Lk X B W → PA X es (tK B W m)
@[simp] def kNil : EM (List Sl) := fun _ g Q _ => Q [] g
@[simp] def kVal (m : EM D) (ms : EM (List Sl)) : EM (List Sl) := fun ρ g Q E => m ρ g (fun d g1 => ms ρ g1 (fun ss g2 => Q (.val d :: ss) g2) E) E
@[simp] def kAcc (m : EM (List D)) (ms : EM (List Sl)) : EM (List Sl) := fun ρ g Q E => m ρ g (fun d g1 => ms ρ g1 (fun ss g2 => Q (.acc d :: ss) g2) E) E
theorem ek_nil : EKs X [] kNil := by
  intro B W hB L
  refine pa_mono pa_nil ?_
  rintro σ H Q ⟨F, ρ, g, QD, R, w, q⟩
  exact q [] H F g [] Ste.refl R .nil (fun a h => by cases h) w
theorem ek_val {mk : EM (List Sl)} (ha : EV X a m) (hb : EKs X es mk) (hs : starEach (a :: es) X.env = (false, eval a X.env) :: starEach es X.env := by rfl) : EKs X (a :: es) (kVal m mk) := by
  intro B W hB L
  refine pa_mono (pa_cons (ha B W hB L) (hb B W hB L) hs) ?_
  rintro σ H Q ⟨F, ρ, g, QD, R, w, q⟩
  refine ⟨F, ρ, g, _, R, w, ?_⟩
  intro v1 H1 F1 g1 d1 k1 R1 r1 w1
  refine ⟨F1, ρ, g1, _, R1, w1, ?_⟩
  intro v2 H2 F2 g2 ss k2 R2 r2 fr w2
  have e : accA (v1 :: v2) (.val d1 :: ss) = accA v2 ss := by cases v1 <;> rfl
  refine q _ H2 F2 g2 _ (k1.trans k2) R2 (.val (r1.mono k2.ff) r2) (fun a ha => ?_) w2
  rw [e] at ha
  exact k1.none (fr a ha)
theorem ek_acc {mk : EM (List Sl)} (ha : EN X a ms) (hb : EKs X es mk) (hs : starEach (a :: es) X.env = (false, eval a X.env) :: starEach es X.env := by rfl) : EKs X (a :: es) (kAcc ms mk) := by
  intro B W hB L
  refine pa_mono (pa_cons (ha B W hB L) (hb B W hB L) hs) ?_
  rintro σ H Q ⟨F, ρ, g, QD, R, w, q⟩
  refine ⟨F, ρ, g, _, R, w, ?_⟩
  intro p xs H1 F1 g1 ds k1 R1 hn h1 hf hg h0 hs r1 w1
  refine ⟨F1, ρ, g1, _, R1, w1, ?_⟩
  intro v2 H2 F2 g2 ss k2 R2 r2 fr w2
  obtain ⟨h2, hg2⟩ := k2.kp p _ h1 hg
  have hf2 : F2 p = none := by
    cases z : F2 p with
    | none => rfl
    | some u =>
      rcases k2.fn p u z with z' | z'
      · rw [hf] at z'; cases z'
      · rw [h1] at z'; cases z'
  refine q _ H2 F2 g2 _ (k1.trans k2) R2 (.acc h2 (r1.mono k2.ff) hf2 hg2 h0 hs (fun hm => ?_) r2) (fun a ha => ?_) w2
  · have := fr p hm
    rw [h1] at this; cases this
  · rcases List.mem_cons.mp ha with z | z
    · rw [z]; exact hn
    · exact k1.none (fr a z)
@[simp] def setS : List Nat → List Sl → Rho → Option Rho
  | [], [], ρ => some ρ
  | i :: is, s :: ss, ρ => setS is ss (ρ.set i s)
  | _, _, _ => none
theorem KL.shift {B : Bs} {F : Hp} {g : G} {H : Hp} {ρ ρ' : Rho} {σ σ' : L2.St} (h : ∀ (p : Addr) (j : Nat) (es : List D), (∀ (i : Nat) (es : List D), ρ[i]? = some (.acc es) → σ[i]? ≠ some (some (.ref p))) → ρ'[j]? = some (.acc es) → σ'[j]? ≠ some (some (.ref p))) :
    ∀ {vs : List V} {ss : List Sl}, KL B F g H ρ σ vs ss → KL B F g H ρ' σ' vs ss
  | _, _, .nil => .nil
  | _, _, .val r t => .val r (KL.shift h t)
  | _, _, .acc h1 h2 h3 h4 h5 h6 h7 t => .acc h1 h2 h3 h4 h5 (fun i es z => h _ i es h6 z) h7 (KL.shift h t)
theorem KL.shift' {B : Bs} {F : Hp} {g : G} {H : Hp} {ρ ρ' : Rho} {σ σ' : L2.St} {q : Addr} : ∀ {vs : List V} {ss : List Sl}, KL B F g H ρ σ vs ss → q ∉ accA vs ss →
    (∀ (p : Addr) (j : Nat) (es : List D), p ≠ q → (∀ (i : Nat) (es : List D), ρ[i]? = some (.acc es) → σ[i]? ≠ some (some (.ref p))) → ρ'[j]? = some (.acc es) → σ'[j]? ≠ some (some (.ref p))) → KL B F g H ρ' σ' vs ss
  | _, _, .nil, _, _ => .nil
  | v :: vs, _ :: ss, .val r t, n, h => .val r (KL.shift' t (fun z => n (by cases v <;> exact z)) h)
  | _, _, .acc h1 h2 h3 h4 h5 h6 h7 t, n, h => .acc h1 h2 h3 h4 h5 (fun i es z => h _ i es (fun e => n (by rw [e]; exact List.mem_cons_self)) h6 z) h7 (KL.shift' t (fun z => n (List.mem_cons_of_mem _ z)) h)
theorem Rl.setK {B : Bs} {F : Hp} {g : G} {H : Hp} : ∀ (is : List Nat) (vs : List V) (ss : List Sl) (ρ ρ' : Rho) (σ : L2.St) (Q : L2.St → Hp → Prop), Rl B F ρ g σ H → KL B F g H ρ σ vs ss → setS is ss ρ = some ρ' →
    (∀ σ', Rl B F ρ' g σ' H → Q σ' H) → gNames is vs σ H Q
  | [], vs, ss, ρ, ρ', σ, Q, R, k, e, q => by
    cases ss with
    | nil => cases k; cases e; exact ⟨rfl, q σ R⟩
    | cons s ss => cases e
  | i :: is, vs, ss, ρ, ρ', σ, Q, R, k, e, q => by
    cases k with
    | nil => cases e
    | @val v d vs ss r t =>
      refine ⟨_, _, rfl, Rl.setK is _ _ _ ρ' _ Q (R.set i r) (t.shift ?_) e q⟩
      intro p j es h1 h2 h3
      rcases set_key h2 with ⟨_, _, z⟩ | ⟨hne, z⟩
      · cases z
      · rw [List.getElem?_set_ne hne] at h3
        exact h1 j es z h3
    | @acc p xs ds vs ss h1 h2 h3 h4 h5 h6 h7 t =>
      refine ⟨_, _, rfl, Rl.setK is _ _ _ ρ' _ Q (R.setAcc i h1 h3 h4 h5 h6 h2) (KL.shift' t h7 ?_) e q⟩
      intro p' j es hp' hz h2' h3'
      rcases set_key h2' with ⟨rfl, hl, z⟩ | ⟨hne, z⟩
      · rw [List.getElem?_set_self (by rw [← R.ln]; exact hl)] at h3'
        cases h3'
        exact hp' rfl
      · rw [List.getElem?_set_ne hne] at h3'
        exact hz j es z h3'
/-- names in a tuple = values in a tuple, by way of a tuple -/
@[simp] def sParT (is : List Nat) (m : EM (List Sl)) : SM := fun DD W ρ g => m ρ g (fun ss g' => (ss.length = is.length ∧ ss.length ≤ sizeLine) ∧ match setS is ss ρ with | some ρ' => DD.nx ρ' g' | none => False) (fun x g' => W x ρ g')
theorem sv_parT {ts vs : List Expr} {k k2 : Nat} {pt pt2 : Pos} {is : List Nat} {mk : EM (List Sl)} (hc : X.calm = true) (hg : EGs X ts is) (he : EKs X vs mk)
    (hn : (assignEach ts X.env).length = is.length := by rfl) (hst : (assignEach ts X.env).findIdx? (·.1) = none := by rfl)
    (hs : swapsWithSole [.Tuple ts k pt] (.Tuple vs k2 pt2) pos.line X.env = pure false := by rfl) (hw : swappedStores [.Tuple ts k pt] (.Tuple vs k2 pt2) X.env = pure none := by rfl)
    (h1 : (assignEach [.Tuple ts k pt] X.env).map (·.2) = [assign (.Tuple ts k pt) X.env] := by rfl) : SV X (.Assign [.Tuple ts k pt] (.Tuple vs k2 pt2) pos) (sParT is mk) := by
  intro B W hB L
  refine ps_mono (ps_asg (pe_tup (he B W hB L)) (pg_tup hc hg hn hst) hs hw h1) ?_
  rintro D σ H ⟨F, ρ, g, DD, R, w, q⟩
  refine ⟨F, ρ, g, _, R, w, ?_⟩
  intro us H1 F1 g1 ss k1 R1 kl fr ⟨⟨hl, hz⟩, w1⟩
  refine ⟨by rw [kl.length]; exact hz, fun p hp => ?_⟩
  have G1 := Gro.lay0 (o := .tup us) R1.fh hp
  split at w1
  · rename_i ρ' hss
    refine ⟨p, us, rfl, .inl (.inl upd_same), by rw [kl.length]; exact hl, ?_⟩
    have kl2 : KL B F1 g1 (upd H1 p (.tup us)) ρ σ us ss := by
      have : ∀ {vs : List V} {ss : List Sl}, KL B F1 g1 H1 ρ σ vs ss → KL B F1 g1 (upd H1 p (.tup us)) ρ σ vs ss := fun h => by
        induction h with
        | nil => exact .nil
        | val r t ih => exact .val r ih
        | acc h1 h2 h3 h4 h5 h6 h7 t ih => exact .acc (by rw [upd_ne (ne_of_none h1 hp)]; exact h1) h2 h3 h4 h5 h6 h7 ih
      exact this kl
    exact Rl.setK is us ss ρ ρ' σ _ (R1.gro G1) kl2 hss fun σ' R' => q.nx σ' _ F1 ρ' g1 k1.ff R' w1
  · exact w1.elim
/-- two local names -/
theorem sv_par2 {i j : Nat} {x y : Str} {px py pt : Pos} {kt k2 : Nat} {pt2 : Pos} {mk : EM (List Sl)} (hc : X.calm = true) (hN : X.N.Nodup) (he : EKs X [a, b] mk) (hi : X.N[i]? = some x := by rfl) (hj : X.N[j]? = some y := by rfl) (hij : i ≠ j := by decide)
    (hx : X.env.scope.names.lookup x = some .local := by rfl) (hy : X.env.scope.names.lookup y = some .local := by rfl)
    (hw : swappedStores [.Tuple [.Name x px, .Name y py] kt pt] (.Tuple [a, b] k2 pt2) X.env = pure (some [x, y]) := by rfl)
    (hs : swapsWithSole [.Tuple [.Name x px, .Name y py] kt pt] (.Tuple [a, b] k2 pt2) pos.line X.env = pure false := by rfl) :
    SV X (.Assign [.Tuple [.Name x px, .Name y py] kt pt] (.Tuple [a, b] k2 pt2) pos) (sParT [i, j] mk) := by
  intro B W hB L
  refine ps_mono (ps_par hc hN hi hj hij hx hy (he B W hB L) hw hs) ?_
  rintro D σ H ⟨F, ρ, g, DD, R, w, q⟩
  refine ⟨F, ρ, g, _, R, w, ?_⟩
  intro us H1 F1 g1 ss k1 R1 kl fr ⟨⟨hl, hz⟩, w1⟩
  have hul : us.length = 2 := by rw [kl.length]; exact hl
  obtain ⟨v, w', rfl⟩ : ∃ v w', us = [v, w'] := by
    match us, hul with
    | [v, w'], _ => exact ⟨v, w', rfl⟩
  refine ⟨v, w', rfl, ?_⟩
  split at w1
  · rename_i ρ' hss
    have h := Rl.setK [i, j] [v, w'] ss ρ ρ' σ (fun σ' H => D.nx σ' H) R1 kl hss fun σ' R' => q.nx σ' _ F1 ρ' g1 k1.ff R' w1
    obtain ⟨v1, r1, e1, v2, r2, e2, e3, h⟩ := h
    cases e1
    cases e2
    exact h
  · exact w1.elim
end
end DL

set_option Elab.async false
set_option linter.all false
set_option maxRecDepth 100000
/-! DL10: ranges of great numbers; the place of an item of a tuple. -/
namespace DL
open PySem PySem.Spec PyProof.Rows L2
section
variable {prog : Program} {w : World} {A : Around} {E : Value → Shared → Prop} {s : Shared} {r : Addr} {a b c : Int} {t u v : Tok} {n : Nat}
/-- a list grows by a range whose ends are great -/
theorem extend_long {R : Result → Shared → Prop} (hh : A.handled = none) (hr : IsRange s.heap r a b c t u v) (hbig : Builtin.Range.small a b c = false)
    (hn : Builtin.Range.rangeSize a b c = n) (hlen : n ≤ 2 ^ 24) (S : Addr) (res : Value) (c₀ : Nat) (hS : s.heap.get? S = some { cls := .type "list", data := .seq #[] c₀ })
    (hR : ∀ h' tk acc' c', (∀ b o, b ≠ S → s.heap.get? b = some o → h'.get? b = some o) →
      h'.get? S = some { cls := .type "list", dict := none, data := .seq acc' c', slots := #[] } → ItemsOf (fun i v => ∃ t, v = .int (a + i * c) t) acc' n → R (.ok (.ret res)) { s with heap := h', toks := tk }) :
    wpAny (model prog w) A.in1 (Builtin.List.listExtendWith (.ref S) (.ref r) res)
      (fun fin s' => match fin with
        | .done f => R (.ok f) s'
        | .again c' => c'.quiet = true ∧ codeAny (model prog w) A c' R s') (fun e s' => R (.error e) s') s := by
  have n1 : S ≠ r := by
    rintro rfl
    rw [hr] at hS
    simp at hS
  have n2 : S ≠ s.heap.objs.size := Nat.ne_of_lt (Heap.lt_size hS)
  have n3 : S ∉ [s.heap.objs.size] := by simpa using n2
  have wk := (Walks.longrange (prog := prog) (w := w) (A := A.in1) hh s.heap.objs.size a c n).toS
  have turn : ∀ (h : Heap) (c₁ tk : Nat), IsLongIter h s.heap.objs.size (a + ((0 : Nat) : Int) * c) ((n : Int) - ((0 : Nat) : Int)) c → (∀ b o, b ≠ S → s.heap.get? b = some o → h.get? b = some o) →
      h.get? S = some { cls := .type "list", data := .seq #[] c₁ } → codeAny (model prog w) A (.builtin "list.extend.loop" ⟨[.ref S, .ref s.heap.objs.size, res], []⟩) R { s with heap := h, toks := tk } := by
    intro h c₁ tk hit hk hS1
    refine codeAny_extend_loopS wk (by rw [sizeLine_eq]; omega) S n3 res n 0 _ #[] c₁ rfl (Nat.zero_le _) hit hS1 (ItemsOf.nil _) ?_
    intro s' acc' c' hm hS' hacc
    rw [Moved.eq_with hm]
    refine hR s'.heap s'.toks acc' c' ?_ hS' hacc
    intro b o hb e
    refine hm.heap b o ?_ (hk b o hb e)
    intro hmem
    rcases List.mem_cons.mp hmem with z | z
    · exact hb z
    · have z' := List.mem_singleton.mp z
      rw [z'] at e
      exact absurd (Heap.lt_size e) (Nat.lt_irrefl _)
  unfold Builtin.List.listExtendWith
  refine wpAny_bind (wpAny_typeOf (T := "range") ⟨_, hr, rfl⟩ ?_)
  have e1 : Builtin.List.listSameRef (.ref S) (.ref r) = false := by simp [Builtin.List.listSameRef, n1]
  have e2 : (Value.type "range" == Value.type "list") = false := by decide
  have e3 : (Value.type "range" == Value.type "tuple") = false := by decide
  simp only [e1, e2, e3, Bool.or_false, Bool.false_eq_true, if_false]
  refine wpAny_bind (wpAny_pyIter_longrange hr hbig ?_)
  generalize hit : ({ cls := .type "longrange_iterator", data := .fields #[rawInt a, rawInt (Builtin.Range.rangeSize a b c), rawInt c] } : Obj) = it
  refine wpAny_bind (wpAny_holding (wpAny_hint_range (n := n) (Heap.get?_push_of_some _ hr) hn hlen ?_))
  have i1 : IsLongIter (s.heap.push it) s.heap.objs.size (a + ((0 : Nat) : Int) * c) ((n : Int) - ((0 : Nat) : Int)) c := by
    rw [← hit]
    show IsLongIter _ _ _ _ _
    rw [hn]
    simpa using Heap.get?_push_size s.heap (o := { cls := .type "longrange_iterator", data := .fields #[rawInt a, rawInt (n : Int), rawInt c] }) rfl
  have s1 := Heap.get?_push_of_some it hS
  refine wpAny_ite_split (fun _ => ?_) fun _ => wpAny_pure ⟨plainId_quiet F.plain_extend_loop _, turn _ c₀ _ i1 (fun b o _ e => Heap.get?_push_of_some _ e) s1⟩
  refine wpAny_bind (wpAny_rule (wpAny_bind ?_))
  show wpAny _ _ (updateSeq S (·.push .none) >>= fun _ => updateSeq S (·.pop)) _ _ _
  refine wpAny_bind (wpAny_updateSeq s1 rfl ?_)
  have s2 := Heap.get?_update_self (Obj.mapSeq (·.push Value.none)) s1 rfl
  refine wpAny_updateSeq (hz := by seq_fits) s2 rfl ?_
  have s3 := Heap.get?_update_self (Obj.mapSeq (·.pop)) s2 rfl
  refine wpAny_pure ⟨plainId_quiet F.plain_extend_loop _, turn _ _ _ ((Heap.get?_update_other _ _ n2).trans ((Heap.get?_update_other _ _ n2).trans i1)) ?_ s3⟩
  intro b o hb e
  have hb' := Ne.symm hb
  exact (Heap.get?_update_other _ _ hb').trans ((Heap.get?_update_other _ _ hb').trans (Heap.get?_push_of_some _ e))
theorem list_long {Q : Value → Shared → Prop} (hh : A.handled = none) (hr : IsRange s.heap r a b c t u v) (hbig : Builtin.Range.small a b c = false) (hn : Builtin.Range.rangeSize a b c = n) (hlen : n ≤ 2 ^ 24)
    (hQ : ∀ h' tk acc' c', (∀ b o, s.heap.get? b = some o → h'.get? b = some o) →
      h'.get? s.heap.objs.size = some { cls := .type "list", dict := none, data := .seq acc' c', slots := #[] } → ItemsOf (fun i v => ∃ t, v = .int (a + i * c) t) acc' n → Q (.ref s.heap.objs.size) { s with heap := h', toks := tk }) :
    wpAny (model prog w) A (call (.type "list") [.ref r]) Q E s := by
  refine callType_codes (Q₁ := fun obj s₁ => obj = .ref s.heap.objs.size ∧ s₁ = { s with heap := s.heap.push { cls := .type "list", data := .seq #[] } }) F.called_list (F.typeCall_list_1 _) F.entry_list_init (code_list_new _ ⟨rfl, rfl⟩) ?_
  rintro obj s₁ ⟨rfl, rfl⟩
  have hS : (s.heap.push { cls := .type "list", data := .seq #[] }).get? s.heap.objs.size = some { cls := .type "list", data := .seq #[] } := Heap.get?_push_size _ rfl
  refine ⟨⟨_, hS, rfl⟩, F.args_list_init_2 _ _, ?_⟩
  show wpAny _ _ (do let old ← Builtin.List.listItems (.ref s.heap.objs.size); Builtin.List.listUpdate (.ref s.heap.objs.size) (fun _ => #[]); letGo old.toList.reverse; Builtin.List.listExtendWith (.ref s.heap.objs.size) (.ref r) .none) _ _ _
  refine wpAny_bind ?_
  unfold Builtin.List.listItems
  refine wpAny_bind (wpAny_seqItems hS rfl (wpAny_pure ?_))
  generalize hz : s.heap.objs.size = S at *
  generalize hh0 : s.heap.push { cls := .type "list", data := .seq #[] } = h0 at *
  show wpAny _ _ (updateSeq S (fun _ => #[]) >>= fun _ => letGo (#[] : Array Value).toList.reverse >>= fun _ => Builtin.List.listExtendWith (.ref S) (.ref r) .none) _ _ _
  have hSr : S ≠ r := by
    rintro rfl
    rw [← hz] at hr
    exact absurd (Heap.lt_size hr) (Nat.lt_irrefl _)
  refine wpAny_bind (wpAny_updateSeq hS rfl ?_)
  have hS2 := Heap.get?_update_self (Obj.mapSeq (fun _ => (#[] : Array Value))) hS rfl
  have old : ∀ b o, s.heap.get? b = some o → b ≠ S ∧ h0.get? b = some o := fun b o e => ⟨by rw [← hz]; exact Nat.ne_of_lt (Heap.lt_size e), by rw [← hh0]; exact Heap.get?_push_of_some _ e⟩
  have oth : ∀ b o, s.heap.get? b = some o → (h0.update S (Obj.mapSeq (fun _ => (#[] : Array Value)))).get? b = some o := fun b o e =>
    (Heap.get?_update_other _ _ (Ne.symm (old b o e).1)).trans (old b o e).2
  refine wpAny_bind (wpAny_letGo ?_)
  refine extend_long (A := A.in1) (s := { s with heap := h0.update S (Obj.mapSeq (fun _ => (#[] : Array Value))) }) hh (oth r _ hr) hbig hn hlen S .none _ hS2 fun h' tk acc' c' hk hS' hacc => ?_
  exact ⟨rfl, hQ h' tk acc' c' (fun b o e => hk b o (old b o e).1 (oth b o e)) hS' hacc⟩
end

/-! ### for k in range(a, b), whatever a and b -/
theorem turn_long {P : Program} {w : World} {K : PySem.W.Frag} {tg : Expr} (it : Addr) (lo : Int) (n : Nat) : Turn P w K tg (Itr lo n) [it] it (fun i h => IsLongIter h it (lo + (i : Nat) * 1) ((n : Int) - (i : Nat)) 1) where
  mem := by simp
  obj := fun i h st b hb => by
    obtain rfl : b = it := by simpa using hb
    exact ⟨_, st, fun v z => by
      have z' : Data.fields _ = Data.cell v := z
      cases z'⟩
  keep := fun i h h' st k => k it (by simp) _ st
  item := by
    intro X hP hw hK hc i pins s σ H E I hf st hg
    subst hP hw hK
    obtain ⟨f0, f1, f2, f3, f4, f5⟩ := hf it (by simp)
    have W := Walks.longrange (prog := X.prog) (w := X.w) (I.ok.hd hc) it lo 1 n
    refine W.item i s _ _ hg st fun v h' tk hv st' kk => ?_
    obtain ⟨t, rfl⟩ := hv
    have I1 : Inv X pins σ H { s with heap := h', toks := tk } := I.turned (fun b o hb e => kk b o (by simpa using hb) e) f0 f1 f3 f4 f5
    exact ⟨_, rfl, go_of (s := { s with heap := h', toks := tk }) (n := "longrange_iterator") st' rfl rfl (by decide) ⟨.int (lo + i), H, I1, ⟨t, by rw [Int.mul_one]⟩, ⟨rfl, rfl⟩, st', fun b hb => (hf b hb).1⟩⟩
  done := by
    intro X hP hw hK hc i pins s σ H E I hf st hg
    subst hP hw hK
    obtain ⟨f0, f1, f2, f3, f4, f5⟩ := hf it (by simp)
    have hle : n ≤ i := hg
    exact wpAny_pyNext_long_end (I.ok.hd hc) st (by omega) fun h' eb => ⟨rfl, I.turned (t' := s.toks) (fun b o hb e => eb b o hb e) f0 f1 f3 f4 f5⟩
  self := fun _ _ _ _ _ st h => wpAny_pyIter_longiter st h
section
variable {X : Cx} {tg a b : Expr} {ms : EM (List D)} {ma mb m : EM D} {pos p : Pos}
theorem long_it {pins : List (Addr × Obj)} {σ : L2.St} {H : Hp} {s : Shared} {R : It → Hp → Prop} {E : Value → Shared → Prop} {lo hi : Int} {t u v : Tok} {r : Addr} (I : Inv X pins σ H s) (hr : IsRange s.heap r lo hi 1 t u v)
    (q : R (Itr lo (hi - lo).toNat) H) : wpAny (model X.prog X.w) X.A (pyIter (.ref r)) (PIE X pins σ tg R) E s := by
  have e1 : lo + ((0 : Nat) : Int) * 1 = lo := by simp
  have e2 : (((hi - lo).toNat : Nat) : Int) - ((0 : Nat) : Int) = Builtin.Range.rangeSize lo hi 1 := by rw [rangeSize_one]; split <;> omega
  have ft : ∀ b ∈ [s.heap.objs.size], FpOk X pins H b := fun b hb => by
    obtain rfl : b = s.heap.objs.size := by simpa using hb
    exact I.fpOk (Nat.le_refl _) (I.hok.fresh (Nat.le_refl _))
  cases hs : Builtin.Range.small lo hi 1 with
  | true =>
    refine wpAny_pyIter_range hr hs ?_
    refine ⟨s.heap.objs.size, [s.heap.objs.size], _, _, H, rfl, I.kept (t' := s.toks) fun b o e => Heap.get?_push_of_some _ e, turn_range _ lo (hi - lo).toNat, ?_, ft, q⟩
    show IsRangeIter _ _ (lo + ((0 : Nat) : Int) * 1) ((((hi - lo).toNat : Nat) : Int) - ((0 : Nat) : Int)) 1
    rw [e1, e2]
    exact Heap.get?_push_size _ rfl
  | false =>
    refine wpAny_pyIter_longrange hr hs ?_
    refine ⟨s.heap.objs.size, [s.heap.objs.size], _, _, H, rfl, I.kept (t' := s.toks) fun b o e => Heap.get?_push_of_some _ e, turn_long _ lo (hi - lo).toNat, ?_, ft, q⟩
    show IsLongIter _ _ (lo + ((0 : Nat) : Int) * 1) ((((hi - lo).toNat : Nat) : Int) - ((0 : Nat) : Int)) 1
    rw [e1, e2]
    exact Heap.get?_push_size _ rfl
/-- an expression that makes a range, told by two ints -/
def ER (X : Cx) (e : Expr) (m : EM (Int × Int)) : Prop := ∀ B W, B.K = X.K → Lk X B W → PRg X e fun σ H Q => ∃ F ρ g QD, Rl B F ρ g σ H ∧ m ρ g QD (fun x g' => W x ρ g') ∧
  ∀ i j H' F' g', Ste g H F g' H' F' → Rl B F' ρ g' σ H' → QD (i, j) g' → Q i j H'
@[simp] def r1 (ma : EM D) : EM (Int × Int) := fun ρ g Q E => ma ρ g (fun x g1 => match x with | .int j => Q (0, j) g1 | _ => False) E
@[simp] def r2 (ma mb : EM D) : EM (Int × Int) := fun ρ g Q E => ma ρ g (fun x g1 => mb ρ g1 (fun y g2 => match x, y with | .int i, .int j => Q (i, j) g2 | _, _ => False) E) E
theorem er_1 (hg : Gl X "range") (hm : X.mg "range" = none) (ha : EV X a ma) (na : starEach [a] X.env = (false, eval a X.env) :: starEach [] X.env := by rfl) : ER X (.Call (.Name "range" p) [a] [] pos) (r1 ma) := by
  rintro B W hB L pins s σ H Q I ⟨F, ρ, g, QD, R, w, q⟩
  refine prg_1 hg hm (ha B W hB L) na pins s σ H Q I ⟨F, ρ, g, _, R, w, ?_⟩
  intro v1 H1 F1 g1 d1 k1 R1 r1 w1
  cases d1 with
  | int j => exact ⟨j, r1.int_inv, q 0 j H1 F1 g1 k1 R1 w1⟩
  | _ => exact w1.elim
theorem er_2 (hg : Gl X "range") (hm : X.mg "range" = none) (ha : EV X a ma) (hb : EV X b mb) (na : starEach [a, b] X.env = (false, eval a X.env) :: starEach [b] X.env := by rfl)
    (nb : starEach [b] X.env = (false, eval b X.env) :: starEach [] X.env := by rfl) (hp : (backTo pos (starEach [b] X.env)).any (·.1) = false := by rfl) : ER X (.Call (.Name "range" p) [a, b] [] pos) (r2 ma mb) := by
  rintro B W hB L pins s σ H Q I ⟨F, ρ, g, QD, R, w, q⟩
  refine prg_2 hg hm (ha B W hB L) (hb B W hB L) na nb hp pins s σ H Q I ⟨F, ρ, g, _, R, w, ?_⟩
  intro v1 H1 F1 g1 d1 k1 R1 r1 w1
  refine ⟨F1, ρ, g1, _, R1, w1, ?_⟩
  intro v2 H2 F2 g2 d2 k2 R2 r2 w2
  cases d1 with
  | int i =>
    cases d2 with
    | int j => exact ⟨i, j, r1.int_inv, r2.int_inv, q i j H2 F2 g2 (k1.trans k2) R2 w2⟩
    | _ => exact w2.elim
  | _ => exact w2.elim
@[simp] def iRg (m : EM (Int × Int)) : EM (List D) := fun ρ g Q E => m ρ g (fun x g1 => Q (rngD x.1 (x.2 - x.1).toNat) g1) E
theorem ei_rg {e : Expr} {m : EM (Int × Int)} (h : ER X e m) : EI X tg e (iRg m) := by
  intro B W hB L
  refine ⟨fun pins s σ H R I w => ?_⟩
  obtain ⟨F, ρ, g, QD, R0, w, q⟩ := w
  refine thn (h B W hB L pins s σ H (fun i j H' => R (Itr i (j - i).toNat) H') I ⟨F, ρ, g, _, R0, w, ?_⟩) ?_
  · intro i j H' F' g' k R' w'
    exact q _ H' F' g' _ k R' walk_rg w'
  · rintro x s' ⟨r, i, j, t, u, v, H', rfl, hr, I', q'⟩
    exact long_it I' hr q'
/-- list(range(..)) -/
@[simp] def nRg (m : EM (Int × Int)) : EM (List D) := fun ρ g Q E => m ρ g (fun x g1 => (x.2 - x.1).toNat ≤ 2 ^ 24 ∧ Q (rngD x.1 (x.2 - x.1).toNat) g1) E
theorem rgV_rep {K : PySem.W.Frag} {F : Hp} (i j : Int) : RepL K F (rgV i j) (rngD i (j - i).toNat) := by
  unfold rgV rngD
  have : ∀ l : List Nat, RepL K F (l.map fun k => V.int (i + (k : Nat))) (l.map fun (k : Nat) => D.int (i + (k : Int))) := fun l => by
    induction l with
    | nil => exact .nil
    | cons k l ih => exact .cons (.int _) ih
  exact this _
theorem en_rg {e : Expr} {m : EM (Int × Int)} (hc : X.calm = true) (hg : Gl X "list") (hm : X.mg "list" = none) (h : ER X e m) (na : starEach [e] X.env = (false, eval e X.env) :: starEach [] X.env := by rfl) : EN X (.Call (.Name "list" p) [e] [] pos) (nRg m) := by
  intro B W hB L
  refine ⟨fun pins s σ H Q I w => ?_⟩
  obtain ⟨F, ρ, g, QD, R0, w, q⟩ := w
  refine Call_ (ld_blt I hg hm PyProof.Rows.boot_list (PyProof.Rows.callWith_type1 (args_cons (thn (h B W hB L pins s σ H (fun i j H' => (j - i).toNat ≤ 2 ^ 24 ∧ ∀ q, H' q = none → Q (.ref q) (upd H' q (.lst (rgV i j)))) I ⟨F, ρ, g, _, R0, w, ?_⟩) ?_) na) na))
  · rintro i j H' F' g' k R' ⟨hz, w'⟩
    refine ⟨hz, fun a ha => ?_⟩
    have G1 := Gro.lay0 (o := .lst (rgV i j)) R'.fh ha
    exact q a _ _ F' g' _ (k.trans G1.ste) (R'.gro G1) (k.none ha) upd_same (R'.fh.free ha) (R'.fresh_g ha) (R'.fresh_0 ha) (R'.fresh_s ha) (rgV_rep i j) w'
  · rintro x s1 ⟨r, i, j, t, u, v, H1, rfl, hr, I1, hz, q'⟩
    refine args_nil ?_
    have fin : ∀ h' tk acc c', (∀ b o, s1.heap.get? b = some o → h'.get? b = some o) → h'.get? s1.heap.objs.size = some { cls := .type "list", dict := none, data := .seq acc c', slots := #[] } → ItemsOf (fun k v => ∃ t, v = .int (i + k * 1) t) acc (j - i).toNat →
        EP X pins σ Q (.ref s1.heap.objs.size) { s1 with heap := h', toks := tk } := fun h' tk acc c' hk e' hi => by
      refine ⟨.ref s1.heap.objs.size, upd H1 s1.heap.objs.size (.lst (rgV i j)), I1.laid hk (Nat.le_refl _) (show ObjOk X.prog X.w _ _ _ (.lst (rgV i j)) from ⟨?_, acc.toList, c', vals_rg hi, ?_⟩), rfl, q' _ (I1.hok.fresh (Nat.le_refl _))⟩
      · rw [rgV_length, sizeLine_eq]; omega
      · rw [Array.toArray_toList]; exact e'
    cases hs : Builtin.Range.small i j 1 with
    | true => exact call_list_range (n := (j - i).toNat) (I1.ok.hd hc) hr hs (rangeSize_nat i j) hz fin
    | false => exact list_long (n := (j - i).toNat) (I1.ok.hd hc) hr hs (rangeSize_nat i j) hz fin
/-- tuple(range(..)) of small bounds -/
@[simp] def eTRg (m : EM (Int × Int)) : EM D := fun ρ g Q E => m ρ g (fun x g1 => RgOk x.1 x.2 ∧ Q (.tup (rngD x.1 (x.2 - x.1).toNat)) g1) E
theorem ev_trg {e : Expr} {m : EM (Int × Int)} (hc : X.calm = true) (hg : Gl X "tuple") (hm : X.mg "tuple" = none) (h : ER X e m) (na : starEach [e] X.env = (false, eval e X.env) :: starEach [] X.env := by rfl) : EV X (.Call (.Name "tuple" p) [e] [] pos) (eTRg m) := by
  intro B W hB L
  refine ⟨fun pins s σ H Q I w => ?_⟩
  obtain ⟨F, ρ, g, QD, R0, w, q⟩ := w
  refine Call_ (ld_blt I hg hm PyProof.Rows.boot_tuple (PyProof.Rows.callWith_type1 (args_cons (thn (h B W hB L pins s σ H (fun i j H' => RgOk i j ∧ ∀ q o, H' q = none → o.dict = none → Q (.ref q) (upd H' q (.frz o (.tup (rgV i j))))) I ⟨F, ρ, g, _, R0, w, ?_⟩) ?_) na) na))
  · rintro i j H' F' g' k R' ⟨hz, w'⟩
    refine ⟨hz, fun a o ha ho => ?_⟩
    have G1 := Gro.lay (o := .frz o (.tup (rgV i j))) R'.fh ha
    exact q _ _ _ g' _ (k.trans G1.ste) (R'.gro G1) (.tup (.inl ⟨o, upd_same, ho⟩) (rgV_rep i j)) w'
  · rintro x s1 ⟨r, i, j, t, u, v, H1, rfl, hr, I1, ok, q'⟩
    refine args_nil ?_
    obtain ⟨b1, b2, b3, b4, b5⟩ := ok
    refine call_tuple_range (n := (j - i).toNat) (I1.ok.hd hc) hr (small_one b1 b2 b3 b4) (rangeSize_nat i j) b5 fun h' tk acc hk hi => ?_
    have I2 : Inv X pins σ H1 { s1 with heap := h', toks := tk } := I1.kept hk
    have hl : (rgV i j).length ≤ sizeLine := by rw [rgV_length, sizeLine_eq]; omega
    have I3 := lay_tup (tk := tk) I2 (vals_rg hi) hl
    rw [Array.toArray_toList] at I3
    exact ⟨.ref h'.objs.size, _, I3, rfl, q' _ _ (I2.hok.fresh (Nat.le_refl _)) rfl⟩

/-! ### t.index(x) -/
theorem intsAre_V : ∀ {ns : List Int} {us : List Value}, Vals (ns.map V.int) us → IntsAre us ns
  | [], _, .nil => .nil
  | n :: ns, _, .cons r t => by
    obtain ⟨k, rfl⟩ := r
    exact .cons n k (intsAre_V t)
def indexI (x y : D) : Option D := match x, y with
  | .tup ds, .int k => match intsOf ds with | some ns => if k ∈ ns then some (.int (ns.idxOf k : Nat)) else none | none => none
  | _, _ => none
/-- the object of a tuple, with its dict -/
theorem tup_obj {pins : List (Addr × Obj)} {σ : L2.St} {H : Hp} {s : Shared} {a : Addr} {xs : List V} (I : Inv X pins σ H s) (h : SqN X.K H a xs) : ∃ o its, s.heap.get? a = some o ∧ o.cls = .type "tuple" ∧ o.dict = none ∧ Vals xs its ∧ s.heap.IsTuple a its.toArray := by
  rcases h with ⟨o, e, d⟩ | ⟨o, its, n, hk, hc, hd, hs, hz, r⟩
  · obtain ⟨q1, q2, its, r, o', q3, q4, n, q5⟩ := I.hok a _ e
    rw [q1] at q3; cases q3
    exact ⟨o, its, q1, q4, d, r, ⟨o, q1, q4, n, q5⟩⟩
  · exact ⟨o, its.toList, I.kIn a o hk, hc, hd, r, ⟨o, I.kIn a o hk, hc, n, by simpa using hs⟩⟩
theorem ev_tindex {apos cpos : Pos} (ha : EV X a ma) (hb : EV X b mb) (hbase : attributeBase a "index" X.env (eval a X.env) = eval a X.env := by rfl)
    (hfew : ((backTo cpos (starEach [b] X.env)).all (fun x => !x.1) && (backToKw cpos (keywordEach [] X.env)).all (fun x => x.1.isSome)
      && decide ([b].length + ([] : List Keyword).length + (if ([] : List Keyword).isEmpty then 0 else 1) < 30)) = true := by rfl)
    (hline : (apos.endLine == cpos.line) = true := by rfl) (hs : starEach [b] X.env = (false, eval b X.env) :: starEach [] X.env := by rfl) (hplain : (backTo cpos (starEach [] X.env)).any (·.1) = false := by rfl) :
    EV X (.Call (.Attribute a "index" apos) [b] [] cpos) (fun ρ g Q E => ma ρ g (fun x g1 => (∃ ds, x = .tup ds) ∧ mb ρ g1 (fun y g2 => match indexI x y with | some z => Q z g2 | none => False) E) E) := by
  intro B W hB L
  refine ⟨fun pins s σ H Q I w => ?_⟩
  obtain ⟨F, ρ, g, QD, R, w, q⟩ := w
  refine wpAny_Call_method_late hbase hfew hline rfl (thn ((ha B W hB L).run pins s σ H (fun v1 H1 => ∃ F1 g1 d1, Ste g H F g1 H1 F1 ∧ Rl B F1 ρ g1 σ H1 ∧ Rep B.K F1 v1 d1 ∧ (∃ ds, d1 = .tup ds) ∧ mb ρ g1 (fun y g2 => match indexI d1 y with | some z => QD z g2 | none => False) (fun x g' => W x ρ g')) I ⟨F, ρ, g, _, R, w, fun v1 H1 F1 g1 d1 k1 R1 r1 w1 => ⟨F1, g1, d1, k1, R1, r1, w1.1, w1.2⟩⟩) ?_)
  rintro v s1 ⟨v1, H1, I1, rv, F1, g1, d1, k1, R1, r1, ⟨ds, rfl⟩, w1⟩
  cases r1 with
  | @tup a0 xs _ ht hr =>
    rw [hB] at ht
    cases rv
    obtain ⟨o, its, e1, e2, e3, _⟩ := tup_obj I1 (same_sqN R1.fh ht)
    refine ⟨"tuple", "tuple.index", PySem.F.plainAttrs_tuple, PySem.F.slot_tuple_index, PySem.F.type_tuple_index, ⟨o, e1, e2⟩, fun a' z => ?_, ?_⟩
    · cases z
      exact ⟨o, e1, e3⟩
    · have hA := (pa_cons (hb B W hB L) pa_nil hs).run cpos pins s1 σ H1 (fun vs H2 => ∃ F2 g2 d2 v2, vs = [v2] ∧ Ste g1 H1 F1 g2 H2 F2 ∧ Rl B F2 ρ g2 σ H2 ∧ Rep B.K F2 v2 d2 ∧ (match indexI (.tup ds) d2 with | some z => QD z g2 | none => False)) I1
        ⟨F1, ρ, g1, _, R1, w1, fun v2 H2 F2 g2 d2 k2 R2 r2 w2 => ⟨F2, g2, d2, v2, rfl, k2, R2, r2, w2⟩⟩
      rw [hs] at hA ⊢
      refine Calls.callWith_builtin (by show (false || (backTo cpos (starEach [] X.env)).any (·.1)) = false; rw [hplain] <;> rfl) (Calls.evalArgs_plain ?_)
      refine thn hA ?_
      rintro us s2 ⟨vs, H2, I2, rvs, F2, g2, d2, v2, rfl, k2, R2, r2, w2⟩
      obtain ⟨u2, rfl, ru⟩ := rvs.one
      unfold indexI at w2
      split at w2
      · rename_i z hz
        split at hz
        · rename_i k _ e4
          cases e4
          split at hz
          · rename_i ns hns
            split at hz
            · rename_i hk
              cases hz
              cases r2.int_inv
              obtain ⟨t, rfl⟩ := ru
              obtain ⟨o', its', _, _, _, r', ht'⟩ := tup_obj I2 (same_sqN R2.fh (same_sqN k2.ff ht))
              have hr2 := hr
              rw [intsOf_eq hns] at hr2
              rw [hr2.ints] at r'
              exact PySem.SeqAt.tuple_index_ints ht' (intsAre_V r') hk ⟨.int _, H2, I2.tok _, ⟨_, rfl⟩, q _ H2 F2 g2 _ (k1.trans k2) R2 (.int _) w2⟩
            · cases hz
          · cases hz
        · cases hz
      · exact w2.elim
end
end DL

set_option Elab.async false
set_option linter.all false
set_option maxRecDepth 100000
/-! DL11: more tests and statements; dice. -/
namespace DL
open PySem PySem.Spec PyProof.Rows L2
section
variable {X : Cx} {a b c e : Expr} {es : List Expr} {ma mb m : EM D} {ms : EM (List D)} {mt : EM Bool} {pos : Pos}

theorem et_isN {j p} (ha : EV X a ma) : ET X (.Compare a [.Is] [.Constant .none j p] pos) (tB1 (e1 isN ma)) := by
  intro B W hB L
  refine pt_mono (pt_cmp (pc_isN (ha B W hB L)) (by rfl)) ?_
  rintro σ H Q ⟨F, ρ, g, QD, R, w, q⟩
  refine ⟨F, ρ, g, _, R, w, ?_⟩
  intro v1 H1 F1 g1 d1 k1 R1 r1 w1
  rw [r1.non_iff]
  exact ⟨_, rfl, q _ H1 F1 g1 k1 R1 w1⟩
theorem et_notN {j p} (ha : EV X a ma) : ET X (.Compare a [.IsNot] [.Constant .none j p] pos) (tB1 (e1 notN ma)) := by
  intro B W hB L
  refine pt_mono (pt_cmp (pc_notN (ha B W hB L)) (by rfl)) ?_
  rintro σ H Q ⟨F, ρ, g, QD, R, w, q⟩
  refine ⟨F, ρ, g, _, R, w, ?_⟩
  intro v1 H1 F1 g1 d1 k1 R1 r1 w1
  rw [r1.non_iff]
  exact ⟨_, rfl, q _ H1 F1 g1 k1 R1 w1⟩
theorem ev_gi {x : Str} {i : Int} (hg : Gl X x) (hm : ∃ t, X.mg x = some (.int i t)) (hd : (x == ("__debug__" : Str)) = false := by decide) : EV X (.Name x pos) (eC (.int i)) := by
  obtain ⟨t, hm⟩ := hm
  exact ev_gint hg hm hd
theorem ev_gs {x : Str} {i : Str} (hg : Gl X x) (hm : ∃ t, X.mg x = some (.str i t)) (hd : (x == ("__debug__" : Str)) = false := by decide) : EV X (.Name x pos) (eC (.str i)) := by
  obtain ⟨t, hm⟩ := hm
  exact ev_gstr hg hm hd

/-! ### name = [.. for ..] on one line -/
theorem ps_lcv {i : Nat} {y : Str} {py : Pos} {elt tg iter : Expr} {ifs : List Expr} {scope : Scope} {own : List (Str × Nat)} {spos : Pos} {τ : Tg} {mi : EM (List D)} {me : EM D} (hc : X.calm = true) (hN : X.N.Nodup)
    (hi : EI X tg iter mi) (ok : BlkOk X.N X.env.scope scope own)
    (hg : ∀ (s : Shared) (H : Hp) (C : Addr) (cl : List (Str × Addr)) (fp : List Addr), EG (X.blk s H scope (compEnvC scope cl C X.env) fp) tg τ) (ht : ∀ (s : Shared) (H : Hp) (C : Addr) (cl : List (Str × Addr)) (fp : List Addr), ETs (X.blk s H scope (compEnvC scope cl C X.env) fp) ifs mt)
    (he : ∀ (s : Shared) (H : Hp) (C : Addr) (cl : List (Str × Addr)) (fp : List Addr), EV (X.blk s H scope (compEnvC scope cl C X.env) fp) elt me)
    (hy : X.N[i]? = some y) (hyl : X.env.scope.names.lookup y = some .local) (hsw : swapsWith (.ListComp elt [⟨tg, iter, ifs, 0⟩] scope pos) (some (.Name y py)) spos.line X.env = pure true)
    (hv : ∀ i ∈ τ.vs, i ∈ own.map (·.2)) (hs : ∀ x, foldedSetIterable iter X.env x = pure x) : ∀ B W, B.K = X.K → Lk X B W →
    PS X (.Assign [.Name y py] (.ListComp elt [⟨tg, iter, ifs, 0⟩] scope pos) spos) (tAsg (tN B W (nLc mi τ mt me (own.map (·.2)))) (gName i)) := by
  intro B W hB L
  exact ps_mono (ps_setLc (i := i) (g := τ.t B.K) hc hN hy hyl hsw (hi B W hB L) ok (fun s H C cl fp => by rw [hB]; exact hg s H C cl fp) (fun s H C cl fp => ht s H C cl fp B (fun _ _ _ => False) hB lk_false) (fun s H C cl fp => he s H C cl fp B (fun _ _ _ => False) hB lk_false) hs) fun D σ H w => lc_w hv σ H _ w
theorem tN_fz {B : Bs} {W : Wi} {n : EM (List D)} : ∀ σ H Q, tE B W (eFz n) σ H Q → tN B W n σ H Q := by
  rintro σ H Q ⟨F, ρ, g, QD, R, w, q⟩
  refine ⟨F, ρ, g, _, R, w, ?_⟩
  intro p xs H1 F1 g1 ds k1 R1 hn h1 f1 gn h0 hs r1 w1
  have ef : Same F1 (upd F1 p (.lst xs)) := fun b u e => by rw [upd_ne (ne_of_none e f1)]; exact e
  have k2 : Ste g H F g1 H1 (upd F1 p (.lst xs)) := ⟨fun a o z => ef a o (k1.ff a o z), k1.kp, k1.dm, fun a o z => by
    by_cases hb : a = p
    · subst hb; exact .inr hn
    · rw [upd_ne hb] at z; exact k1.fn a o z⟩
  exact q _ H1 (upd F1 p (.lst xs)) g1 (.lst ds) k2 (R1.freeze h1 f1 gn h0 hs) (.lst (.inl (.inl upd_same)) (r1.mono ef)) w1
theorem sv_setLc {i : Nat} {y : Str} {py : Pos} {elt tg iter : Expr} {ifs : List Expr} {scope : Scope} {own : List (Str × Nat)} {spos : Pos} {τ : Tg} {mi : EM (List D)} {me : EM D} (hc : X.calm = true) (hN : X.N.Nodup)
    (hi : EI X tg iter mi) (ok : BlkOk X.N X.env.scope scope own)
    (hg : ∀ (s : Shared) (H : Hp) (C : Addr) (cl : List (Str × Addr)) (fp : List Addr), EG (X.blk s H scope (compEnvC scope cl C X.env) fp) tg τ) (ht : ∀ (s : Shared) (H : Hp) (C : Addr) (cl : List (Str × Addr)) (fp : List Addr), ETs (X.blk s H scope (compEnvC scope cl C X.env) fp) ifs mt)
    (he : ∀ (s : Shared) (H : Hp) (C : Addr) (cl : List (Str × Addr)) (fp : List Addr), EV (X.blk s H scope (compEnvC scope cl C X.env) fp) elt me)
    (hsw : swapsWith (.ListComp elt [⟨tg, iter, ifs, 0⟩] scope pos) (some (.Name y py)) spos.line X.env = pure true)
    (hy : X.N[i]? = some y := by rfl) (hyl : X.env.scope.names.lookup y = some .local := by rfl)
    (hv : ∀ i ∈ τ.vs, i ∈ own.map (·.2) := by decide) (hs : ∀ x, foldedSetIterable iter X.env x = pure x := by intro _; rfl) :
    SV X (.Assign [.Name y py] (.ListComp elt [⟨tg, iter, ifs, 0⟩] scope pos) spos) (sSet i (eFz (nLc mi τ mt me (own.map (·.2))))) := by
  intro B W hB L
  refine ps_mono (ps_lcv hc hN hi ok hg ht he hy hyl hsw hv hs B W hB L) ?_
  rintro D σ H ⟨F, ρ, g, DD, R, w, q⟩
  exact tN_fz σ H _ ⟨F, ρ, g, _, R, w, fun v H' F' g' d k R' r w' => q.nx _ H' F' _ g' k.ff (R'.set i r) w'⟩
theorem sv_setLcN {i : Nat} {y : Str} {py : Pos} {elt tg iter : Expr} {ifs : List Expr} {scope : Scope} {own : List (Str × Nat)} {spos : Pos} {τ : Tg} {mi : EM (List D)} {me : EM D} (hc : X.calm = true) (hN : X.N.Nodup)
    (hi : EI X tg iter mi) (ok : BlkOk X.N X.env.scope scope own)
    (hg : ∀ (s : Shared) (H : Hp) (C : Addr) (cl : List (Str × Addr)) (fp : List Addr), EG (X.blk s H scope (compEnvC scope cl C X.env) fp) tg τ) (ht : ∀ (s : Shared) (H : Hp) (C : Addr) (cl : List (Str × Addr)) (fp : List Addr), ETs (X.blk s H scope (compEnvC scope cl C X.env) fp) ifs mt)
    (he : ∀ (s : Shared) (H : Hp) (C : Addr) (cl : List (Str × Addr)) (fp : List Addr), EV (X.blk s H scope (compEnvC scope cl C X.env) fp) elt me)
    (hsw : swapsWith (.ListComp elt [⟨tg, iter, ifs, 0⟩] scope pos) (some (.Name y py)) spos.line X.env = pure true)
    (hy : X.N[i]? = some y := by rfl) (hyl : X.env.scope.names.lookup y = some .local := by rfl)
    (hv : ∀ i ∈ τ.vs, i ∈ own.map (·.2) := by decide) (hs : ∀ x, foldedSetIterable iter X.env x = pure x := by intro _; rfl) :
    SV X (.Assign [.Name y py] (.ListComp elt [⟨tg, iter, ifs, 0⟩] scope pos) spos) (sSetN i (nLc mi τ mt me (own.map (·.2)))) := by
  intro B W hB L
  refine ps_mono (ps_lcv hc hN hi ok hg ht he hy hyl hsw hv hs B W hB L) ?_
  rintro D σ H ⟨F, ρ, g, DD, R, w, q⟩
  exact ⟨F, ρ, g, _, R, w, fun p xs H' F' g' ds k R' hn hp hf hg h0 hs r w' => q.nx _ H' F' _ g' k.ff (R'.setAcc i hp hf hg h0 hs r) w'⟩

/-! ### dice: a tracked list of three ints -/
def gset (g : G) (a : Addr) (o : O) : G := fun b => if b = a then some o else g b
theorem gset_same {g : G} {a : Addr} {o : O} : gset g a o a = some o := by unfold gset; rw [if_pos rfl]
theorem gset_ne {g : G} {a b : Addr} {o : O} (h : b ≠ a) : gset g a o b = g b := by unfold gset; rw [if_neg h]
@[simp] def eDg (i : Nat) (k : Int) : EM D := fun ρ g Q _ => match ρ[i]? with
  | some (.val (.ref a)) => g a = some .dice ∧ (0 ≤ k ∧ k < 3) ∧ ∀ x : Int, Q (.int x) g
  | _ => False
theorem ev_dget {i : Nat} {x : Str} {p p2 : Pos} {k : Int} {j} (hN : X.N[i]? = some x := by rfl) (hv : Vis X.env.scope x := by first | exact Or.inl rfl | exact Or.inr (Or.inl rfl) | exact Or.inr (Or.inr rfl)) (hd : (x == ("__debug__" : Str)) = false := by decide) (hcd : (x == ("__classdict__" : Str)) = false := by decide)
    (hs : PlainIx (.Constant (.int k) j p2) := by exact fun _ _ => rfl) : EV X (.Subscript (.Name x p) (.Constant (.int k) j p2) pos) (eDg i k) := by
  intro B W hB L
  refine pe_mono (pe_ix ix_list (pe_var (i := i) hN hv hd hcd) pe_int hs) ?_
  rintro σ H Q ⟨F, ρ, g, QD, R, w, q⟩
  unfold eDg at w
  split at w
  · rename_i a hi
    obtain ⟨hg, ⟨k0, k3⟩, w⟩ := w
    obtain ⟨v, e1, r⟩ := R.sl i _ hi
    cases r with
    | ref =>
      obtain ⟨⟨x, y, z, hH⟩, _⟩ := R.gg a _ hg
      refine ⟨.ref a, e1, a, [.int x, .int y, .int z], k, ?_⟩
      have : k = 0 ∨ k = 1 ∨ k = 2 := by omega
      rcases this with rfl | rfl | rfl
      · exact ⟨.int x, rfl, rfl, SqL.of hH, rfl, q _ H F g _ Ste.refl R (.int _) (w x)⟩
      · exact ⟨.int y, rfl, rfl, SqL.of hH, rfl, q _ H F g _ Ste.refl R (.int _) (w y)⟩
      · exact ⟨.int z, rfl, rfl, SqL.of hH, rfl, q _ H F g _ Ste.refl R (.int _) (w z)⟩
  · exact w.elim
theorem Rl.dice {B : Bs} {F : Hp} {ρ : Rho} {g : G} {σ : L2.St} {H : Hp} (R : Rl B F ρ g σ H) {a : Addr} (hg : g a = some .dice) (x y z : Int) : Rl B F ρ g σ (upd H a (.lst [.int x, .int y, .int z])) := by
  obtain ⟨h1, h2, h3⟩ := R.gg a _ hg
  obtain ⟨u, hu⟩ := h1.there
  refine ⟨fun b o e => by rw [upd_ne (ne_of_none e h2)]; exact R.fh b o e, R.f0, R.fn, fun b o e => ?_, fun b o e n => ?_, fun b o e => ?_, fun i s e => ?_, R.dj, R.ln⟩
  · by_cases hb : b = a
    · subst hb; exact ⟨_, upd_same⟩
    · rw [upd_ne hb]; exact R.dm b o e
  · rw [upd_ne (fun q => by
      subst q
      rcases h3 with ⟨o', q⟩ | q
      · rw [n] at q; cases q
      · rw [e] at q; cases q)]
    exact R.fr b o e n
  · obtain ⟨q1, q2, q3⟩ := R.gg b o e
    refine ⟨?_, q2, q3⟩
    by_cases hb : b = a
    · subst hb
      rw [hg] at e
      cases e
      exact ⟨x, y, z, upd_same⟩
    · cases o with
      | dice =>
        obtain ⟨x, y, z, q⟩ := q1
        exact ⟨x, y, z, by rw [upd_ne hb]; exact q⟩
      | dct kds =>
        obtain ⟨kvs, q, q'⟩ := q1
        exact ⟨kvs, by rw [upd_ne hb]; exact q, q'⟩
      | aux c =>
        rcases q1 with ⟨x, q⟩ | q
        · exact .inl ⟨x, by rw [upd_ne hb]; exact q⟩
        · exact .inr (by rw [upd_ne hb]; exact q)
      | tab q =>
        obtain ⟨ps, q, q'⟩ := q1
        exact ⟨ps, by rw [upd_ne hb]; exact q, q'⟩
      | ins C dx fs =>
        obtain ⟨g1, vs, s, r⟩ := q1
        have hd : dx ≠ a := fun z => by subst z; rw [hg] at g1; cases g1
        exact ⟨g1, vs, s.imp (fun z => ⟨by rw [upd_ne hb]; exact z.1, z.2⟩) fun z => ⟨by rw [upd_ne hb]; exact z.1, by rw [upd_ne hd]; exact z.2⟩, r⟩
  · have h := R.sl i s e
    cases s with
    | no => trivial
    | val d => exact h
    | acc ds =>
      obtain ⟨p, xs, e1, f1, f2, f3, f4, f5⟩ := h
      exact ⟨p, xs, e1, by rw [upd_ne (fun q => by subst q; rw [hg] at f4; cases f4)]; exact f1, f2, f3, f4, f5⟩
@[simp] def sDs (i : Nat) (k : Int) (m : EM D) : SM := fun DD W ρ g => m ρ g (fun d g' => match d, ρ[i]? with
  | .int _, some (.val (.ref a)) => g' a = some .dice ∧ (0 ≤ k ∧ k < 3) ∧ DD.nx ρ g'
  | _, _ => False) (fun x g' => W x ρ g')
theorem sv_dset {i : Nat} {x : Str} {p p2 tpos : Pos} {k : Int} {j} (hv : EV X a m) (hN : X.N[i]? = some x := by rfl) (hvs : Vis X.env.scope x := by first | exact Or.inl rfl | exact Or.inr (Or.inl rfl) | exact Or.inr (Or.inr rfl)) (hd : (x == ("__debug__" : Str)) = false := by decide) (hcd : (x == ("__classdict__" : Str)) = false := by decide)
    (ha : ∀ v, assign (.Subscript (.Name x p) (.Constant (.int k) j p2) tpos) X.env v = (do
      let ov ← holding [v] (eval (.Name x p) X.env)
      let iv ← holding [v, ov] (eval (.Constant (.int k) j p2) X.env)
      standAt tpos
      holding [v, ov, iv] (setItem ov iv v)
      release [v, ov, iv] []) := by intro _; rfl)
    (hs : swapsWithSole [.Subscript (.Name x p) (.Constant (.int k) j p2) tpos] a pos.line X.env = pure false := by rfl) (hw : swappedStores [.Subscript (.Name x p) (.Constant (.int k) j p2) tpos] a X.env = pure none := by rfl)
    (h1 : (assignEach [.Subscript (.Name x p) (.Constant (.int k) j p2) tpos] X.env).map (·.2) = [assign (.Subscript (.Name x p) (.Constant (.int k) j p2) tpos) X.env] := by rfl) : SV X (.Assign [.Subscript (.Name x p) (.Constant (.int k) j p2) tpos] a pos) (sDs i k m) := by
  intro B W hB L
  refine ps_mono (ps_asg (hv B W hB L) (pg_sub (pe_var (i := i) hN hvs hd hcd) pe_int set_list ha) hs hw h1) ?_
  rintro D σ H ⟨F, ρ, g, DD, R, w, q⟩
  refine ⟨F, ρ, g, _, R, w, ?_⟩
  intro v1 H1 F1 g1 d1 k1 R1 r1 w1
  split at w1
  · rename_i n a hi
    obtain ⟨hg, ⟨k0, k3⟩, w1⟩ := w1
    obtain ⟨v, e1, r⟩ := R1.sl i _ hi
    cases r with
    | ref =>
      obtain ⟨⟨x, y, z, hH⟩, _⟩ := R1.gg a _ hg
      rw [r1.int_inv]
      have : k = 0 ∨ k = 1 ∨ k = 2 := by omega
      rcases this with rfl | rfl | rfl
      · exact ⟨.ref a, e1, a, _, 0, 0, rfl, rfl, hH, rfl, q.nx σ _ F1 ρ g1 k1.ff (R1.dice hg n y z) w1⟩
      · exact ⟨.ref a, e1, a, _, 1, 1, rfl, rfl, hH, rfl, q.nx σ _ F1 ρ g1 k1.ff (R1.dice hg x n z) w1⟩
      · exact ⟨.ref a, e1, a, _, 2, 2, rfl, rfl, hH, rfl, q.nx σ _ F1 ρ g1 k1.ff (R1.dice hg x y n) w1⟩
  · exact w1.elim
@[simp] def sRetDice (m : EM (List D)) : SM := fun DD W ρ g => m (thaw ρ) g (fun ds g' => (∃ x y z : Int, ds = [.int x, .int y, .int z]) ∧ ∀ a, g' a = none → DD.rt (.ref a) (gset g' a .dice)) (fun x g' => W x (thaw ρ) g')
theorem sv_retDice (he : EN X e ms) : SV X (.Return (some e) pos) (sRetDice ms) := by
  intro B W hB L
  refine ps_mono (ps_ret (he B W hB L)) ?_
  rintro D σ H ⟨F, ρ, g, DD, R, w, q⟩
  refine ⟨_, _, g, _, R.thaw, w, ?_⟩
  rintro p xs H' F' g' ds k R' hn h1 hf hg h0 hs r ⟨⟨x, y, z, rfl⟩, w'⟩
  have r' : xs = [V.int x, V.int y, V.int z] := by
    have := RepL.ints (bs := [x, y, z]) r
    simpa using this
  subst r'
  have R0 := R'.forget
  refine q.rt _ [] H' F' [] (gset g' p .dice) _ ⟨R0.fh, R0.f0, R0.fn, R0.dm, R0.fr, fun a o e => ?_, fun i s e => by simp at e, R0.dj, rfl⟩ (.ref p) (w' p hg)
  by_cases hb : a = p
  · subst hb
    rw [gset_same] at e
    cases e
    exact ⟨⟨x, y, z, h1⟩, hf, .inr h0⟩
  · rw [gset_ne hb] at e
    obtain ⟨q1, q2, q3⟩ := R0.gg a o e
    exact ⟨q1.mono (fun _ _ _ r => r) (fun _ _ _ _ q => q) (fun b c q => by rw [gset_ne (fun z => by subst z; rw [hg] at q; cases q)]; exact q) (fun _ _ z => z) e, q2, q3⟩
end
end DL

namespace DL
open PySem PySem.Spec PyProof.Rows L2
@[simp] def eTix (ma mb : EM D) : EM D := fun ρ g Q E => ma ρ g (fun x g1 => (∃ ds, x = .tup ds) ∧ mb ρ g1 (fun y g2 => match indexI x y with | some z => Q z g2 | none => False) E) E
end DL

namespace DL
open PySem PySem.Spec PyProof.Rows L2
theorem lcGo_w {τ : Tg} {mt : EM Bool} {me : EM D} {ρ : Rho} (p : D → Bool) (f : D → D) {g : G} {Q : List D → G → Prop} : ∀ {ds acc : List D},
    (∀ d ∈ ds, ∃ ρ', τ.bd d ρ = some ρ' ∧ (∀ K : Bool → G → Prop, K (p d) g → mt ρ' g K (fun _ _ => False)) ∧ (p d = true → ∀ K : D → G → Prop, K (f d) g → me ρ' g K (fun _ _ => False))) →
    Q (acc ++ (ds.filter p).map f) g → lcGo τ mt me ρ ds acc g Q
  | [], acc, _, q => by simpa [lcGo] using q
  | d :: ds, acc, h, q => by
    obtain ⟨ρ', e, h1, h2⟩ := h d (List.mem_cons_self ..)
    rw [lcGo, e]
    refine h1 _ ?_
    have ih : ∀ acc', Q (acc' ++ (ds.filter p).map f) g → lcGo τ mt me ρ ds acc' g Q := fun acc' => lcGo_w p f (fun d' hd => h d' (List.mem_cons_of_mem _ hd))
    by_cases hp : p d = true
    · rw [if_pos hp]
      refine h2 hp _ (ih _ ?_)
      rw [List.filter_cons_of_pos hp] at q
      simpa using q
    · rw [if_neg hp]
      refine ih _ ?_
      rw [List.filter_cons_of_neg (by simpa using hp)] at q
      exact q
theorem lcGo_a {τ : Tg} {me : EM D} {ρ : Rho} (f : D → D) {g : G} {Q : List D → G → Prop} {ds : List D}
    (h : ∀ d ∈ ds, ∃ ρ', τ.bd d ρ = some ρ' ∧ (∀ K : D → G → Prop, K (f d) g → me ρ' g K (fun _ _ => False)))
    (q : Q (ds.map f) g) : lcGo τ tTrue me ρ ds [] g Q := by
  refine lcGo_w (fun _ => true) f (fun d hd => ?_) (by rw [List.filter_eq_self.mpr (fun _ _ => rfl)]; exact q)
  obtain ⟨ρ', e, h1⟩ := h d hd
  exact ⟨ρ', e, fun K k => k, fun _ => h1⟩
theorem atI_int {ns : List Int} {i : Int} (h0 : 0 ≤ i) (h : i < ns.length) : atI (ns.map D.int) i = some (.int (ns.getD i.toNat 0)) := by
  obtain ⟨j, rfl⟩ := Int.eq_ofNat_of_zero_le h0
  have hj : j < ns.length := by omega
  refine atI_nat (j := j) ?_
  simp [List.getElem?_eq_getElem hj]
theorem cutG_1 {α : Type} (xs : List α) : cutG xs (some 1) none = xs.drop 1 := by
  unfold cutG
  rw [show HT.sIx xs.length 0 (some 1) = min 1 xs.length from HT.sIx_nat xs.length 0 1, HT.sIx_none]
  cases xs with
  | nil => rfl
  | cons x r =>
    rw [show min 1 (x :: r).length = 1 by rw [List.length_cons]; omega]
    show (List.take ((x :: r).length - 1) r) = r
    rw [List.length_cons, Nat.add_sub_cancel]
    exact List.take_length
theorem cutG_to {α : Type} (xs : List α) (k : Nat) : cutG xs none (some (k : Int)) = xs.take k := by
  unfold cutG
  rw [HT.sIx_none, HT.sIx_nat xs.length xs.length k]
  simp only [List.drop_zero, Nat.sub_zero]
  rw [List.take_eq_take_iff]
  omega
theorem cutG_fr {α : Type} (xs : List α) (k : Nat) : cutG xs (some (k : Int)) none = xs.drop k := by
  unfold cutG
  rw [HT.sIx_none, HT.sIx_nat xs.length 0 k]
  rcases Nat.le_total k xs.length with h | h
  · rw [Nat.min_eq_left h, List.take_of_length_le (by simp)]
  · rw [Nat.min_eq_right h, List.drop_of_length_le h]; simp
theorem cutG_mid {α : Type} (xs : List α) (k j : Nat) : cutG xs (some (k : Int)) (some (j : Int)) = (xs.take j).drop k := by
  unfold cutG
  rw [HT.sIx_nat xs.length xs.length j, HT.sIx_nat xs.length 0 k, List.drop_take]
  rcases Nat.le_total k xs.length with h | h
  · rw [Nat.min_eq_left h, List.take_eq_take_iff]; simp; omega
  · rw [Nat.min_eq_right h, List.drop_of_length_le h, List.drop_of_length_le (Nat.le_refl _)]; simp
theorem blsOf_mapF {α : Type} {f : α → Bool} : ∀ l : List α, blsOf (l.map fun x => D.bl (f x)) = some (l.map f)
  | [] => rfl
  | x :: l => by simp [blsOf, blsOf_mapF l]
theorem zipL_map {α β : Type} (f : α → D) (h : β → D) : ∀ (xs : List α) (ys : List β), zipL (xs.map f) (ys.map h) = (xs.zip ys).map fun p => .ptp [f p.1, h p.2]
  | [], _ => by simp
  | x :: xs, [] => by simp
  | x :: xs, y :: ys => by
    have ih := zipL_map f h xs ys
    simp [ih]
/-- a loop over a row -/
theorem forGo_w {τ : Tg} {n : SM} {DD : SE} {W : Wi} (I : List D → Rho → G → Prop)
    (step : ∀ d ds ρ g (N : Rho → G → Prop), I (d :: ds) ρ g → (∀ ρ g, I ds ρ g → N ρ g) → ∃ ρ', τ.bd d ρ = some ρ' ∧ n { DD with nx := N, ct := N, bk := DD.nx } W ρ' g)
    (fin : ∀ ρ g, I [] ρ g → DD.nx ρ g) : ∀ {ds : List D} {ρ : Rho} {g : G}, I ds ρ g → forGo τ n DD W ds ρ g
  | [], _, _, i => fin _ _ i
  | d :: ds, ρ, g, i => by
    obtain ⟨ρ', e, h⟩ := step d ds ρ g (forGo τ n DD W ds) i fun ρ g j => forGo_w I step fin j
    rw [forGo, e]
    exact h
theorem whGo_w {t : EM Bool} {n : SM} {DD : SE} {W : Wi} (I : Nat → Rho → G → Prop)
    (step : ∀ k ρ g (N : Rho → G → Prop), I k ρ g → (∀ j, j < k → ∀ ρ g, I j ρ g → N ρ g) → t ρ g (fun c g' => if c = true then n { DD with nx := N, ct := N, bk := DD.nx } W ρ g' else DD.nx ρ g') (fun x g' => W x ρ g')) :
    ∀ (f : Nat) {k : Nat} {ρ : Rho} {g : G}, k < f → I k ρ g → whGo t n DD W f ρ g
  | 0, k, _, _, h, _ => absurd h (Nat.not_lt_zero k)
  | f + 1, k, ρ, g, h, i => by
    rw [whGo]
    exact step k ρ g (whGo t n DD W f) i fun j hj ρ g q => whGo_w I step f (by omega) q
theorem sWhile_w {t : EM Bool} {n : SM} {DD : SE} {W : Wi} (I : Nat → Rho → G → Prop)
    (step : ∀ k ρ g (N : Rho → G → Prop), I k ρ g → (∀ j, j < k → ∀ ρ g, I j ρ g → N ρ g) → t ρ g (fun c g' => if c = true then n { DD with nx := N, ct := N, bk := DD.nx } W ρ g' else DD.nx ρ g') (fun x g' => W x ρ g'))
    {k : Nat} {ρ : Rho} {g : G} (i : I k ρ g) : sWhile t n DD W ρ g := ⟨k + 1, whGo_w I step (k + 1) (Nat.lt_succ_self k) i⟩
theorem rngD_cons (lo : Int) (m : Nat) : rngD lo (m + 1) = .int lo :: rngD (lo + 1) m := by
  unfold rngD
  rw [List.range_succ_eq_map]
  simp [Function.comp_def]
  intro i _
  omega
theorem rngD_zero (lo : Int) : rngD lo 0 = [] := rfl
end DL

set_option Elab.async false
set_option linter.all false
set_option maxRecDepth 100000
namespace DL
open PySem PySem.Spec PyProof.Rows L2
theorem pokL_all : ∀ {ds : List D}, (∀ d ∈ ds, pok d = true) → pokL ds = true
  | [], _ => rfl
  | d :: ds, h => by rw [pokL, h d (List.mem_cons_self ..), pokL_all fun x hx => h x (List.mem_cons_of_mem _ hx)]; rfl
theorem depL_all {n : Nat} : ∀ {ds : List D}, (∀ d ∈ ds, dep n d = true) → depL n ds = true
  | [], _ => by rw [depL]
  | d :: ds, h => by rw [depL, h d (List.mem_cons_self ..), depL_all fun x hx => h x (List.mem_cons_of_mem _ hx)]; rfl
@[simp] theorem pok_int {i : Int} : pok (.int i) = true := by simp [pok]
@[simp] theorem pok_str {i : Str} : pok (.str i) = true := by simp [pok]
@[simp] theorem pok_bl {i : Bool} : pok (.bl i) = true := by simp [pok]
@[simp] theorem pok_non : pok .non = true := by simp [pok]
@[simp] theorem dep_int {n : Nat} {i : Int} : dep n (.int i) = true := by cases n <;> simp [dep]
@[simp] theorem dep_str {n : Nat} {i : Str} : dep n (.str i) = true := by cases n <;> simp [dep]
@[simp] theorem dep_bl {n : Nat} {i : Bool} : dep n (.bl i) = true := by cases n <;> simp [dep]
@[simp] theorem dep_non {n : Nat} : dep n .non = true := by cases n <;> simp [dep]
@[simp] theorem pokL_ints {ns : List Int} : pokL (ns.map .int) = true := pokL_all fun d hd => by obtain ⟨i, _, rfl⟩ := List.mem_map.mp hd; simp
@[simp] theorem depL_ints {n : Nat} {ns : List Int} : depL n (ns.map .int) = true := depL_all fun d hd => by obtain ⟨i, _, rfl⟩ := List.mem_map.mp hd; simp
theorem pokL_iff : ∀ {ds : List D}, pokL ds = true → ∀ d ∈ ds, pok d = true
  | d :: ds, h, x, hx => by
    rw [pokL, Bool.and_eq_true] at h
    rcases List.mem_cons.mp hx with rfl | q
    · exact h.1
    · exact pokL_iff h.2 x q
mutual
theorem eqv_py : ∀ x : D, pok x = true → PyData.eqv (py x) (py x) = true
  | .non, _ => by simp [py, PyData.eqv]
  | .bl b, _ => by simp [py, PyData.eqv]
  | .int b, _ => by simp [py, PyData.eqv]
  | .str b, _ => by simp [py, PyData.eqv]
  | .tup ds, h => by rw [pok] at h; simp [py, PyData.eqv, eqv_pyL ds h]
  | .ptp ds, h => by rw [pok] at h; simp [py, PyData.eqv, eqv_pyL ds h]
  | .lst ds, h => by rw [pok] at h; simp [py, PyData.eqv, eqv_pyL ds h]
  | .dic _ _, h => by simp [pok] at h
  | .ref _, h => by simp [pok] at h
theorem eqv_pyL : ∀ x : List D, pokL x = true → PyData.eqvAll (pyL x) (pyL x) = true
  | [], _ => by simp [pyL, PyData.eqvAll]
  | d :: ds, h => by
    rw [pokL, Bool.and_eq_true] at h
    simp [pyL, PyData.eqvAll, eqv_py d h.1, eqv_pyL ds h.2]
end
theorem eqD_self {x : D} (h : pok x = true) (h2 : dep deepest x = true) : eqD x x = some (.bl true) := by
  unfold eqD eqOk
  rw [if_pos (by simp [h, h2]), eqv_py x h]
theorem neD_self {x : D} (h : pok x = true) (h2 : dep deepest x = true) : neD x x = some (.bl false) := by
  unfold neD eqOk
  rw [if_pos (by simp [h, h2]), eqv_py x h]; rfl
theorem pok_ii {ns : List Int} : pok (.lst (ns.map .int)) = true := by rw [pok]; simp
theorem pok_iit {ns : List Int} : pok (.tup (ns.map .int)) = true := by rw [pok]; simp
theorem dep_ii {ns : List Int} : dep deepest (.lst (ns.map .int)) = true := by unfold deepest; rw [dep]; simp
theorem dep_iit {ns : List Int} : dep deepest (.tup (ns.map .int)) = true := by unfold deepest; rw [dep]; simp
@[simp] theorem eqD_ii {ns : List Int} : eqD (.lst (ns.map .int)) (.lst (ns.map .int)) = some (.bl true) := eqD_self pok_ii dep_ii
@[simp] theorem eqD_iit {ns : List Int} : eqD (.tup (ns.map .int)) (.tup (ns.map .int)) = some (.bl true) := eqD_self pok_iit dep_iit
@[simp] theorem neD_ii {ns : List Int} : neD (.lst (ns.map .int)) (.lst (ns.map .int)) = some (.bl false) := neD_self pok_ii dep_ii
@[simp] theorem neD_iit {ns : List Int} : neD (.tup (ns.map .int)) (.tup (ns.map .int)) = some (.bl false) := neD_self pok_iit dep_iit
@[simp] theorem eqD_int {i j : Int} : eqD (.int i) (.int j) = some (.bl (decide (i = j))) := by
  unfold eqD eqOk
  simp [py, PyData.eqv]
  by_cases h : i = j <;> simp [h]
@[simp] theorem neD_int {i j : Int} : neD (.int i) (.int j) = some (.bl (!decide (i = j))) := by
  unfold neD eqOk
  simp [py, PyData.eqv]
  by_cases h : i = j <;> simp [h]
theorem any_int {ns : List Int} {i : Int} : ((pyL (ns.map .int)).any fun z => PyData.eqv z (py (.int i))) = decide (i ∈ ns) := by
  induction ns with
  | nil => simp [pyL]
  | cons n ns ih =>
    have ih' : ((pyL (ns.map .int)).any fun z => PyData.eqv z (.int i)) = decide (i ∈ ns) := ih
    simp only [List.map_cons, pyL, List.any_cons, py, PyData.eqv]
    rw [ih']
    by_cases h : n = i
    · simp [h]
    · have : (n == i) = false := by simpa using h
      simp [this, Ne.symm h]
@[simp] theorem inD_int {ns : List Int} {i : Int} : inD (.int i) (.tup (ns.map .int)) = some (.bl (decide (i ∈ ns))) := by
  have h := any_int (ns := ns) (i := i)
  unfold inD inOk
  simp only [pok_int, pok_iit, dep_int, Bool.and_self, ite_true, h]
@[simp] theorem notInD_int {ns : List Int} {i : Int} : notInD (.int i) (.tup (ns.map .int)) = some (.bl (!decide (i ∈ ns))) := by
  have h := any_int (ns := ns) (i := i)
  unfold notInD inOk
  simp only [pok_int, pok_iit, dep_int, Bool.and_self, ite_true, h]
/-- is the list empty -/
theorem neD_nil {ds : List D} (h : pokL ds = true) : neD (.lst ds) (.lst []) = some (.bl (!ds.isEmpty)) := by
  unfold neD eqOk
  rw [if_pos (by simp [pok, h, pokL, deepest, dep, depL])]
  cases ds <;> simp [py, pyL, PyData.eqv, PyData.eqvAll]
/-! costs of sums with told ends -/
theorem small_log {j : Int} (h0 : 0 < j) (h : j < 2 ^ 62) : j.natAbs.log2 < 9000 := by
  have : j.natAbs < 2 ^ 62 := by omega
  have := (Nat.log2_lt (by omega)).mpr this
  omega
@[simp] theorem mulOk_l {i j : Int} (h1 : -(2 ^ 64) < i) (h2 : i < 2 ^ 64) : mulOk i j := .inr (.inl ⟨h1, h2⟩)
@[simp] theorem mulOk_r {i j : Int} (h1 : -(2 ^ 64) < j) (h2 : j < 2 ^ 64) : mulOk i j := .inr (.inr ⟨h1, h2⟩)
@[simp] theorem mulOk_m {i j k : Int} (h1 : 0 < k) (h2 : k < 2 ^ 64) : mulOk (i % k) j := by
  have b0 := Int.emod_nonneg i (show k ≠ 0 by omega)
  have b1 := Int.emod_lt_of_pos i h1
  exact .inr (.inl ⟨by omega, by omega⟩)
@[simp] theorem divW_s {i j : Int} (h1 : 0 < j) (h2 : j < 2 ^ 62) : CDivW i j := ⟨h1, small_log h1 h2⟩
@[simp] theorem CPow_l {i j : Int} (h1 : 0 ≤ j) (h2 : j ≤ 1000000) (h3 : i.natAbs < 2 ^ 64) : CPow i j := ⟨h1, h2, h3⟩
@[simp] theorem mulOk_n {i j : Int} (h1 : i.natAbs < 2 ^ 250) (h2 : j.natAbs < 2 ^ 250) : mulOk i j := by
  have f : ∀ n : Nat, n < 2 ^ 250 → n.log2 < 251 := fun n h => by
    rcases Nat.eq_zero_or_pos n with rfl | p
    · decide
    · have := (Nat.log2_lt (n := n) (k := 250) (by omega)).mpr h
      omega
  have a := f _ h1
  have b := f _ h2
  exact .inl (by unfold CMulW; omega)
/-- a sum of constants -/
theorem ev_fold {X : Cx} {e : Expr} {m : EM D} (d : D) (h : EV X e m) (k : ∀ ρ g Q E, Q d g → m ρ g Q E) : EV X e (eC d) := by
  intro B W hB L
  refine pe_mono (h B W hB L) ?_
  rintro σ H Q ⟨F, ρ, g, QD, R, w, q⟩
  exact ⟨F, ρ, g, QD, R, k _ _ _ _ w, q⟩
section
variable {P : Program} {w : World} {K : PySem.W.Frag} {mg : Str → Option Value} {base : Heap}
/-- the same as def_ok, its object told -/
theorem fn_okD {x qual : Str} {st : Stmt} {f : Addr} {fd : FuncData} {N ps : List Str} {k : Nat} {sp : FSp} (F : Fun K x qual st f fd) (S : FnScope N ps (defScope st))
    (len : ∀ ds g Q E, sp ds g Q E → ds.length = ps.length)
    (hbody : ∀ (cdv : Value) (A : Around) (outer : List Env) (s : Shared) (H : Hp) (E : XK), RoomG k (A.deeper (envOfC qual (defScope st) s.heap.objs.size f cdv)) →
      ∃ m : SM, SVs (cxOf (L2.CX P w) P w K mg base N qual (defScope st) f cdv A outer s H E) (defBody st) m ∧
        ∀ ds g Q E, sp ds g Q E → m { nx := fun _ g' => Q .non g', rt := Q, g0 := g } (fun x _ g' => E x g') (startR N ds) g) : FnG P w K mg base (L2.CX P w) (k + 1) f fd ps (lift K sp) := by
  refine Fun.okG F S (fun vs H Q E h => ?_) (fun cdv A outer s H vs Q E hr h => ?_)
  · obtain ⟨F, g, ds, QD, ED, r, R, h, _⟩ := h
    rw [r.length]
    exact len _ _ _ _ h
  · obtain ⟨Fz, g, ds, QD, ED, r, R, h, qr, qe⟩ := h
    obtain ⟨m, hS, hm⟩ := hbody cdv A outer s H E hr
    have lk : Lk (cxOf (L2.CX P w) P w K mg base N qual (defScope st) f cdv A outer s H E) ⟨K, H, g, Fz⟩ (fun x _ g' => ED x g') :=
      Takes.imp (takes_of (E := E) rfl rfl rfl rfl) fun c d σ H' ⟨F', ρ', g', x, R', xr, z⟩ => qe c d H' F' g' x R'.forget xr z
    refine ⟨_, hS ⟨K, H, g, Fz⟩ (fun x _ g' => ED x g') rfl lk, Fz, startR N ds, g, _, R.start r, hm ds g QD ED h, ?_⟩
    refine ⟨fun σ' H' F' ρ' g' e R' w' => qr _ H' F' g' _ R'.forget .non w', fun v σ' H' F' ρ' g' d R' r w' => qr v H' F' g' d R'.forget r w', fun _ _ _ _ _ _ _ z => z.elim, fun _ _ _ _ _ _ _ z => z.elim, rfl⟩
end
/-- the law's own call -/
theorem law_sp {K : PySem.W.Frag} {sp : FSp} {H : Hp} {a : Addr} {ns : List Int} (hS : SqL K H a (ns.map V.int)) (h : sp [.lst (ns.map .int)] (fun _ => none) (fun d _ => d = .bl true) (fun _ _ => False)) :
    lift K sp [.ref a] H (fun v _ => v = .bl true) fun _ _ _ => False := by
  refine ⟨H, fun _ => none, _, _, _, .cons (.lst hS (RepL.of_ints ns)) .nil, ?_, h, fun v H' F' g' d _ r e => ?_, fun _ _ _ _ _ _ _ _ z => z⟩
  · exact ⟨Same.refl H, Same.refl H, fun a o e => .inl ⟨o, e⟩, fun a o e => ⟨o, e⟩, fun a o e _ => e, fun a o e => by simp at e, fun i s e => by simp at e, fun i j a ds es e => by simp at e, rfl⟩
  · subst e
    cases r
    rfl
theorem cx_none {P : Program} {w : World} {H : Hp} {s : Shared} {e : Value} {s' : Shared} (h : L2.CX P w [] H s (fun _ _ _ => False) e s') : False := by
  obtain ⟨_, _, _, _, _, _, _, _, _, _, _, _, z⟩ := h
  exact z
end DL

set_option Elab.async false
set_option linter.all false
set_option maxRecDepth 100000
namespace DL
open PySem PySem.Spec PyProof.Rows L2
/-! ### + of lists and tuples -/
theorem ladd_any (l : Addr) (items : Array Value) (n : Nat) (sl : Array (Option Value)) (b : Addr) (items2 : Array Value) (n2 : Nat) (sl2 : Array (Option Value)) (hc0 : items.size + items2.size ≤ sizeLine) :
    Meets (Builtin.«list.__add__» ⟨[.ref l, .ref b], []⟩) (fun _ R s => s.heap.get? l = some { cls := .type "list", dict := none, data := .seq items n, slots := sl } ∧ s.heap.get? b = some { cls := .type "list", dict := none, data := .seq items2 n2, slots := sl2 } ∧ R (.ok (.ret (Value.ref s.heap.objs.size))) { s with heap := s.heap.push { cls := Value.type "list", data := Data.seq (items ++ items2) }, toks := s.toks }) :=
  .of_wp fun prog w A R s h => by
    obtain ⟨hp, g, d, tk, os⟩ := s; obtain ⟨hl, hb, h⟩ := h
    have f3 := AutoSeq1.sub_list_list
    wp_walk using AutoSeq1.wpAny_loadPart' hl, AutoSeq1.wpAny_loadPart' hb
    exact ⟨_, rfl, h⟩
section
variable {X : Cx}
def rCatL (K : PySem.W.Frag) : R2 := fun x y H Q => ∃ a b xs ys, x = .ref a ∧ y = .ref b ∧ SqL K H a xs ∧ SqL K H b ys ∧ xs.length + ys.length ≤ sizeLine ∧ ∀ p, H p = none → Q (.ref p) (upd H p (.lst (xs ++ ys)))
theorem op_catL : OpR X (binaryOp .Add) (rCatL X.K) := by
  intro pins s σ H x y v u Q I rx ry h
  obtain ⟨a, b, xs, zs, rfl, rfl, hH, hB, hz, q⟩ := h
  cases rx
  cases ry
  obtain ⟨its, r, ⟨o, n, e, hc, hd, hdat⟩, z⟩ := I.list hH
  obtain ⟨its2, r2, ⟨o2, n2, e2, hc2, hd2, hdat2⟩, z2⟩ := I.list hB
  obtain ⟨c, d, da, sl⟩ := o
  obtain ⟨c2, d2, da2, sl2⟩ := o2
  cases hc; cases hd; cases hdat; cases hc2; cases hd2; cases hdat2
  have hs : its.toArray.size + its2.toArray.size ≤ sizeLine := by
    rw [List.size_toArray, List.size_toArray, ← r.length, ← r2.length]; exact hz
  refine concat_meets ⟨_, e, rfl⟩ ⟨_, e2, rfl⟩ noFill_list_add seq_list_add F.slot_list_add F.entry_list_add (F.args_list_add_2 _ _) (ladd_any _ _ _ _ _ _ _ _ hs) ⟨e, e2, ?_⟩
  have ea : its.toArray ++ its2.toArray = (its ++ its2).toArray := by simp
  rw [ea]
  exact ⟨.ref _, _, I.lnew (t' := s.toks) (r.append r2) (by rw [List.length_append]; omega), rfl, q _ I.fresh⟩
@[simp] def addD (x y : D) : Option D := match x, y with
  | .int i, .int j => some (.int (i + j))
  | .tup xs, .tup ys => if xs.length + ys.length ≤ sizeLine then some (.tup (xs ++ ys)) else none
  | .lst xs, .lst ys => if xs.length + ys.length ≤ sizeLine then some (.lst (xs ++ ys)) else none
  | .str a, .str b => if a.length + b.length ≤ sizeLine then some (.str (a ++ b)) else none
  | .ptp xs, .tup ys => if (xs.length + ys.length ≤ sizeLine ∧ xs.isEmpty = false) ∧ ys.isEmpty = false then some (.tup (xs ++ ys)) else none
  | _, _ => none
theorem Vals.nl {xs : List V} {us : List Value} (r : Vals xs us) : us = [] ↔ xs = [] := Vals.nil_iff r
theorem os_addD : OS2 X (binaryOp .Add) addD := by
  intro pins s σ H F x y v u dx dy dz Q I hF rx ry hx hy hf q
  unfold addD at hf
  split at hf
  · exact os_add pins s σ H F x y v u _ _ dz Q I hF rx ry hx hy hf q
  · split at hf
    · rename_i ds es hz
      cases hf
      cases hx with
      | @tup a xs _ ha hr =>
        cases hy with
        | @tup b ys _ hb hr2 =>
          cases rx
          cases ry
          obtain ⟨its, r1, p1, _⟩ := I.tuple (same_sqT hF ha.sqT)
          obtain ⟨its2, r2, p2, _⟩ := I.tuple (same_sqT hF hb.sqT)
          rw [← hr.length, ← hr2.length] at hz
          by_cases hn : xs = []
          · subst hn
            cases r1
            cases hr
            exact cat_tup0 p1 p2 ⟨.ref b, H, I, rfl, q _ F H (Gro.refl hF) (.tup hb hr2)⟩
          · refine HT.cat_tup p1 p2 (fun z => hn (r1.nil_iff.mp z)) (fun z => ?_) (fun z => ?_) (by rw [← r1.length, ← r2.length]; exact hz)
            · have : ys = [] := r2.nil_iff.mp z
              subst this
              cases hr2
              exact ⟨.ref a, H, I, rfl, q _ F H (Gro.refl hF) (by rw [List.append_nil]; exact .tup ha hr)⟩
            · have hp := I.hok.fresh (Nat.le_refl s.heap.objs.size)
              have G1 := Gro.lay (o := .frz { cls := .type "tuple", data := .seq (its ++ its2).toArray } (.tup (xs ++ ys))) hF hp
              exact ⟨.ref s.heap.objs.size, _, lay_tup (tk := s.toks) I (r1.append r2) (by rw [List.length_append]; exact hz), rfl, q _ _ _ G1 (.tup (.inl ⟨_, upd_same, rfl⟩) ((hr.append hr2).mono G1.ff))⟩
    · cases hf
  · split at hf
    · rename_i ds es hz
      cases hf
      cases hx with
      | @lst a xs _ ha hr =>
        cases hy with
        | @lst b ys _ hb hr2 =>
          refine op_catL pins s σ H _ _ v u Q I rx ry ⟨a, b, xs, ys, rfl, rfl, hF.seq ha, hF.seq hb, by rw [hr.length, hr2.length]; exact hz, fun p hp => ?_⟩
          have G1 := Gro.lay (o := .lst (xs ++ ys)) hF hp
          exact q _ _ _ G1 (.lst (.inl (.inl upd_same)) ((hr.append hr2).mono G1.ff))
    · cases hf
  · split at hf
    · rename_i a b hz
      cases hf
      cases hx.str_inv
      cases hy.str_inv
      exact op_add_str pins s σ H _ _ v u Q I rx ry ⟨_, _, rfl, rfl, hz, q _ F H (Gro.refl hF) (.str _)⟩
    · cases hf
  · split at hf
    · rename_i ds es hz
      obtain ⟨⟨hz, he1⟩, he2⟩ := hz
      cases hf
      cases hx with
      | @ptp a xs _ ha hr =>
        cases hy with
        | @tup b ys _ hb hr2 =>
          cases rx
          cases ry
          obtain ⟨its, r1, p1, _⟩ := I.tuple (same_sqT hF ha)
          obtain ⟨its2, r2, p2, _⟩ := I.tuple (same_sqT hF hb.sqT)
          rw [← hr.length, ← hr2.length] at hz
          refine HT.cat_tup p1 p2 (fun z => ?_) (fun z => ?_) (fun z => ?_) (by rw [← r1.length, ← r2.length]; exact hz)
          · have : xs = [] := r1.nil_iff.mp z
            subst this; cases hr; cases he1
          · have : ys = [] := r2.nil_iff.mp z
            subst this; cases hr2; cases he2
          · have hp := I.hok.fresh (Nat.le_refl s.heap.objs.size)
            have G1 := Gro.lay (o := .frz { cls := .type "tuple", data := .seq (its ++ its2).toArray } (.tup (xs ++ ys))) hF hp
            exact ⟨.ref s.heap.objs.size, _, lay_tup (tk := s.toks) I (r1.append r2) (by rw [List.length_append]; exact hz), rfl, q _ _ _ G1 (.tup (.inl ⟨_, upd_same, rfl⟩) ((hr.append hr2).mono G1.ff))⟩
    · cases hf
  · cases hf
/-- a list and a list, new -/
@[simp] def nCat (ma mb : EM D) : EM (List D) := fun ρ g Q E => ma ρ g (fun x g1 => mb ρ g1 (fun y g2 => match x, y with | .lst xs, .lst ys => xs.length + ys.length ≤ sizeLine ∧ Q (xs ++ ys) g2 | _, _ => False) E) E
theorem en_cat {a b : Expr} {ma mb : EM D} {pos : Pos} (ha : EV X a ma) (hb : EV X b mb) : EN X (.BinOp a .Add b pos) (nCat ma mb) := by
  intro B W hB L
  refine pe_mono (pe_op op_catL (ha B W hB L) (hb B W hB L)) ?_
  rintro σ H Q ⟨F, ρ, g, QD, R, w, q⟩
  refine ⟨F, ρ, g, _, R, w, ?_⟩
  intro v1 H1 F1 g1 d1 k1 R1 r1 w1
  refine ⟨F1, ρ, g1, _, R1, w1, ?_⟩
  intro v2 H2 F2 g2 d2 k2 R2 r2 w2
  have r1 := r1.mono k2.ff
  cases d1 with
  | lst xs =>
    cases d2 with
    | lst ys =>
      cases r1 with
      | @lst a vs _ ha hr =>
        cases r2 with
        | @lst b ws _ hb hr2 =>
          obtain ⟨hz, w2⟩ := w2
          rw [← hB]
          refine ⟨a, b, vs, ws, rfl, rfl, R2.fh.seq ha, R2.fh.seq hb, by rw [hr.length, hr2.length]; exact hz, fun p hp => ?_⟩
          have G1 := Gro.lay0 (o := .lst (vs ++ ws)) R2.fh hp
          exact q p _ _ F2 g2 _ ((k1.trans k2).trans G1.ste) (R2.gro G1) ((k1.trans k2).none hp) upd_same (R2.fh.free hp) (R2.fresh_g hp) (R2.fresh_0 hp) (R2.fresh_s hp) (hr.append hr2) w2
    | _ => exact w2.elim
  | _ => exact w2.elim
end
end DL

set_option Elab.async false
set_option linter.all false
set_option maxRecDepth 100000
namespace DL
open PySem PySem.Spec PyProof.Rows L2
/-! ### dicts -/
@[simp] def keyOf : D → Option Key
  | .int i => some (.inl i)
  | .str x => some (.inr x)
  | _ => none
@[simp] def ofKey : Key → D
  | .inl i => .int i
  | .inr x => .str x
inductive RepK (K : PySem.W.Frag) (F : Hp) : List (Key × V) → List (Key × D) → Prop
  | nil : RepK K F [] []
  | cons {k : Key} {v : V} {d : D} {kvs : List (Key × V)} {kds : List (Key × D)} : Rep K F v d → RepK K F kvs kds → RepK K F ((k, v) :: kvs) ((k, d) :: kds)
def getK (kds : List (Key × D)) (k : Key) : Option D := (kds.find? fun kv => decide (kv.1 = k)).map (·.2)
def putD (kds : List (Key × D)) (k : Key) (d : D) : List (Key × D) :=
  if (kds.any fun kv => decide (kv.1 = k)) = true then kds.map (fun kv => if kv.1 = k then (kv.1, d) else kv) else kds ++ [(k, d)]
def mergeD (kds more : List (Key × D)) : List (Key × D) := more.foldl (fun acc kv => putD acc kv.1 kv.2) kds
/-- the dict of these pairs -/
abbrev mkDic (kds : List (Key × D)) : D := .dic (kds.map (·.1)) (kds.map (·.2))
@[simp] theorem zip_mf : ∀ kds : List (Key × D), (kds.map (·.1)).zip (kds.map (·.2)) = kds
  | [] => rfl
  | p :: r => by simp [zip_mf r]
section
variable {K : PySem.W.Frag} {F F' : Hp} {kvs : List (Key × V)} {kds : List (Key × D)}
theorem RepK.mono (e : Same F F') (h : RepK K F kvs kds) : RepK K F' kvs kds := by
  induction h with
  | nil => exact .nil
  | cons r _ ih => exact .cons (r.mono e) ih
theorem RepK.length (h : RepK K F kvs kds) : kvs.length = kds.length := by
  induction h with
  | nil => rfl
  | cons r _ ih => simp [ih]
theorem RepK.keys (h : RepK K F kvs kds) : kvs.map (·.1) = kds.map (·.1) := by
  induction h with
  | nil => rfl
  | cons r _ ih => simp [ih]
theorem RepK.vals (h : RepK K F kvs kds) : RepL K F (kvs.map (·.2)) (kds.map (·.2)) := by
  induction h with
  | nil => exact .nil
  | cons r _ ih => exact .cons r ih
theorem RepK.of : ∀ {kvs : List (Key × V)} {ks : List Key} {ds : List D}, kvs.map (·.1) = ks → RepL K F (kvs.map (·.2)) ds → RepK K F kvs (ks.zip ds)
  | [], _, _, h, r => by
    subst h
    cases r
    exact .nil
  | (k, v) :: kvs, _, _, h, r => by
    subst h
    cases r with
    | cons r1 r2 => exact .cons r1 (RepK.of rfl r2)
theorem RepK.val (h : RepK K F kvs kds) (k : Key) : (∃ v d, valV kvs k = some v ∧ getK kds k = some d ∧ Rep K F v d) ∨ (valV kvs k = none ∧ getK kds k = none) := by
  induction h with
  | nil => exact .inr ⟨rfl, rfl⟩
  | @cons k' v d kvs kds r _ ih =>
    by_cases e : k' = k
    · exact .inl ⟨v, d, by simp [valV, e], by simp [getK, e], r⟩
    · have e1 : valV ((k', v) :: kvs) k = valV kvs k := valV_neg e
      have e2 : getK ((k', d) :: kds) k = getK kds k := by simp [getK, List.find?_cons, e]
      rw [e1, e2]
      exact ih
theorem RepK.repl (h : RepK K F kvs kds) (k : Key) {v : V} {d : D} (r : Rep K F v d) : RepK K F (kvs.map fun kv => if kv.1 = k then (kv.1, v) else kv) (kds.map fun kv => if kv.1 = k then (kv.1, d) else kv) := by
  induction h with
  | nil => exact .nil
  | @cons k' v' d' kvs kds r' _ ih =>
    by_cases e : k' = k
    · simp only [List.map_cons, if_pos e]
      exact .cons r ih
    · simp only [List.map_cons, if_neg e]
      exact .cons r' ih
theorem RepK.snoc (h : RepK K F kvs kds) (k : Key) {v : V} {d : D} (r : Rep K F v d) : RepK K F (kvs ++ [(k, v)]) (kds ++ [(k, d)]) := by
  induction h with
  | nil => exact .cons r .nil
  | cons r' _ ih => exact .cons r' ih
theorem RepK.any (h : RepK K F kvs kds) (k : Key) : (kvs.any fun kv => decide (kv.1 = k)) = (kds.any fun kv => decide (kv.1 = k)) := by
  induction h with
  | nil => rfl
  | cons r' _ ih => simp only [List.any_cons, ih]
theorem RepK.put (h : RepK K F kvs kds) (k : Key) {v : V} {d : D} (r : Rep K F v d) : RepK K F (putK kvs k v) (putD kds k d) := by
  unfold putK putD
  rw [h.any k]
  split
  · exact h.repl k r
  · exact h.snoc k r
theorem RepK.merge {more : List (Key × V)} {mored : List (Key × D)} (m : RepK K F more mored) : ∀ {kvs : List (Key × V)} {kds : List (Key × D)}, RepK K F kvs kds → RepK K F (mergeK kvs more) (mergeD kds mored) := by
  induction m with
  | nil => exact fun h => h
  | @cons k v d _ _ r _ ih => exact fun h => ih (h.put k r)
theorem putD_nodup {k : Key} {d : D} (h : (kds.map (·.1)).Nodup) : ((putD kds k d).map (·.1)).Nodup := by
  unfold putD
  split
  · have e : ((kds.map fun kv => if kv.1 = k then (kv.1, d) else kv).map (·.1)) = kds.map (·.1) := by
      rw [List.map_map]
      refine List.map_congr_left fun kv _ => ?_
      show (if kv.1 = k then (kv.1, d) else kv).1 = kv.1
      split <;> rfl
    rw [e]
    exact h
  · rename_i hn
    rw [List.map_append, List.nodup_append]
    refine ⟨h, by simp, fun a ha b hb => ?_⟩
    simp at hb
    subst hb
    intro e
    subst e
    obtain ⟨kv, h1, h2⟩ := List.mem_map.mp ha
    exact hn (List.any_eq_true.mpr ⟨kv, h1, by simp [h2]⟩)
theorem mergeD_nodup : ∀ {more kds : List (Key × D)}, (kds.map (·.1)).Nodup → ((mergeD kds more).map (·.1)).Nodup
  | [], _, h => h
  | p :: r, kds, h => mergeD_nodup (more := r) (kds := putD kds p.1 p.2) (putD_nodup h)
theorem RepK.rep {a : Addr} {o : Obj} (h : RepK K F kvs kds) (e : F a = some (.frz o (.dK kvs))) (nd : (kds.map (·.1)).Nodup) : Rep K F (.ref a) (mkDic kds) := .dic e h.keys nd h.vals
/-- the parts of a dict's worth -/
theorem Rep.dic_inv {v : V} {ks : List Key} {ds : List D} (h : Rep K F v (.dic ks ds)) : ∃ a o kvs, v = .ref a ∧ F a = some (.frz o (.dK kvs)) ∧ kvs.map (·.1) = ks ∧ ks.Nodup ∧ RepK K F kvs (ks.zip ds) ∧ RepL K F (kvs.map (·.2)) ds := by
  cases h with
  | @dic a o kvs _ _ e hk hn hr => exact ⟨a, o, kvs, rfl, e, hk, hn, .of hk hr, hr⟩
theorem ofKey_rep (k : Key) : Rep K F (kV k) (ofKey k) := by
  cases k with
  | inl i => exact .int i
  | inr x => exact .str x
theorem key_rep {v : V} {d : D} {k : Key} (r : Rep K F v d) (e : keyOf d = some k) : v = kV k ∧ d = ofKey k := by
  cases r <;> simp at e <;> subst e <;> exact ⟨rfl, rfl⟩
end
section
variable {X : Cx} {e e2 o f tg : Expr} {md mk mx m : EM D} {ms : EM (List D)} {apos cpos pos p : Pos}
/-- d.get(k, x) -/
@[simp] def eGet (md mk mx : EM D) : EM D := fun ρ g Q E => md ρ g (fun x g1 => (∃ ks ds, x = .dic ks ds) ∧ mk ρ g1 (fun y g2 => mx ρ g2 (fun z g3 => match x, keyOf y with | .dic ks ds, some k => Q ((getK (ks.zip ds) k).getD z) g3 | _, _ => False) E) E) E
theorem ev_get2 {k : Nat} (hr : Room k X.A) (ho : EV X o md) (he : EV X e mk) (hf : EV X f mx) (b : attributeBase o "get" X.env (eval o X.env) = eval o X.env := by rfl)
    (few : ((backTo cpos (starEach [e, f] X.env)).all (fun x => !x.1) && (backToKw cpos (keywordEach [] X.env)).all (fun x => x.1.isSome)
      && decide (([e, f] : List Expr).length + ([] : List Keyword).length + (if ([] : List Keyword).isEmpty then 0 else 1) < 30)) = true := by rfl)
    (line : (apos.endLine == cpos.line) = true := by rfl) (trees : backTo cpos (starEach [e, f] X.env) = [(false, eval e X.env), (false, eval f X.env)] := by rfl) : EV X (.Call (.Attribute o "get" apos) [e, f] [] cpos) (eGet md mk mx) := by
  intro B W hB L
  have hu := hr.units
  refine pe_mono (pe_dget2 (by omega) (ho B W hB L) (he B W hB L) (hf B W hB L) ⟨b, few, line, trees⟩) ?_
  rintro σ H Q ⟨F, ρ, g, QD, R, w, q⟩
  refine ⟨F, ρ, g, _, R, w, ?_⟩
  rintro v1 H1 F1 g1 d1 k1 R1 r1 ⟨⟨ks, ds, rfl⟩, w1⟩
  obtain ⟨a, od, kvs, rfl, ea, hk, hn, rk, rv⟩ := r1.dic_inv
  refine ⟨a, rfl, .inl ⟨kvs, .inr ⟨od, R1.fh _ _ ea⟩⟩, F1, ρ, g1, _, R1, w1, ?_⟩
  intro v2 H2 F2 g2 d2 k2 R2 r2 w2
  refine ⟨F2, ρ, g2, _, R2, w2, ?_⟩
  intro v3 H3 F3 g3 d3 k3 R3 r3 w3
  cases hy : keyOf d2 with
  | none => rw [hy] at w3; exact w3.elim
  | some key =>
    rw [hy] at w3
    obtain ⟨rfl, _⟩ := key_rep r2 hy
    have ea3 : H3 a = some (.frz od (.dK kvs)) := R3.fh _ _ ((k2.trans k3).ff _ _ ea)
    refine ⟨valV kvs key, .inl ⟨kvs, key, .inr ⟨od, ea3⟩, rfl, rfl⟩, q _ H3 F3 g3 _ ((k1.trans k2).trans k3) R3 ?_ w3⟩
    rcases rk.val key with ⟨v, d, e1, e2, r⟩ | ⟨e1, e2⟩
    · rw [e1, e2]
      exact r.mono (k2.trans k3).ff
    · rw [e1, e2]
      exact r3
/-- d[k] -/
@[simp] def eDix (md mk : EM D) : EM D := fun ρ g Q E => md ρ g (fun x g1 => mk ρ g1 (fun y g2 => match x, keyOf y with | .dic ks ds, some k => (match getK (ks.zip ds) k with | some d => Q d g2 | none => False) | _, _ => False) E) E
theorem ev_dix {k : Nat} (hr : Room k X.A) (ho : EV X o md) (he : EV X e mk) (hs : NoSl e := by exact fun _ _ => rfl) : EV X (.Subscript o e pos) (eDix md mk) := by
  intro B W hB L
  have hu := hr.units
  refine pe_mono (pe_dget (by omega) (ho B W hB L) (he B W hB L) hs) ?_
  rintro σ H Q ⟨F, ρ, g, QD, R, w, q⟩
  refine ⟨F, ρ, g, _, R, w, ?_⟩
  intro v1 H1 F1 g1 d1 k1 R1 r1 w1
  refine ⟨F1, ρ, g1, _, R1, w1, ?_⟩
  intro v2 H2 F2 g2 d2 k2 R2 r2 w2
  cases d1 with
  | dic ks ds =>
    obtain ⟨a, od, kvs, rfl, ea, hk, hn, rk, rv⟩ := r1.dic_inv
    cases hy : keyOf d2 with
    | none => rw [hy] at w2; exact w2.elim
    | some key =>
      rw [hy] at w2
      obtain ⟨rfl, _⟩ := key_rep r2 hy
      rcases rk.val key with ⟨v, d, e1, e2, r⟩ | ⟨e1, e2⟩
      · simp only [e2] at w2
        exact ⟨a, v, rfl, .inl ⟨kvs, key, .inr ⟨od, R2.fh _ _ (k2.ff _ _ ea)⟩, rfl, e1.symm⟩, q _ H2 F2 g2 _ (k1.trans k2) R2 (r.mono k2.ff) w2⟩
      · simp only [e2] at w2
  | _ => exact w2.elim
/-- for k in d; for v in d.values(); for k, v in d.items() -/
@[simp] def iKeyD (m : EM D) : EM (List D) := fun ρ g Q E => m ρ g (fun d g1 => match d with | .dic ks _ => Q (ks.map ofKey) g1 | _ => False) E
@[simp] def iValD (m : EM D) : EM (List D) := fun ρ g Q E => m ρ g (fun d g1 => match d with | .dic _ ds => Q ds g1 | _ => False) E
@[simp] def iItemD (m : EM D) : EM (List D) := fun ρ g Q E => m ρ g (fun d g1 => match d with | .dic ks ds => Q ((ks.zip ds).map fun kv => .ptp [ofKey kv.1, kv.2]) g1 | _ => False) E
theorem ei_keyD (hl : EV X e m) : EI X tg e (iKeyD m) := by
  intro B W hB L
  refine pi_mono (pi_keys (hl B W hB L)) ?_
  rintro σ H Q ⟨F, ρ, g, QD, R, w, q⟩
  refine ⟨F, ρ, g, _, R, w, ?_⟩
  intro v1 H1 F1 g1 d1 k1 R1 r1 w1
  cases d1 with
  | dic ks ds =>
    obtain ⟨a, od, kvs, rfl, ea, hk, hn, rk, rv⟩ := r1.dic_inv
    have hl : (ks.map ofKey).length = kvs.length := by rw [← hk]; simp
    refine ⟨a, od, rfl, .inl ⟨kvs, R1.fh _ _ ea, q _ H1 F1 g1 _ k1 R1 ⟨fun i H h z => walk_keys.goes i H (by omega) (z _ _ ea), fun H z => by rw [hl]; exact walk_keys.stops H (z _ _ ea), fun i H F2 x H' h z z2 y => ?_⟩ w1⟩⟩
    obtain ⟨e1, kk, v, e2, rfl⟩ := walk_keys.yields i H x H' (by omega) (z2 _ _ (z _ _ ea)) y
    refine ⟨ofKey kk, F2, ?_, by rw [e1]; exact Gro.refl z2, ofKey_rep kk⟩
    rw [← hk, List.map_map, List.getElem?_map, e2]
    rfl
  | _ => exact w1.elim
theorem ei_valD (hl : EV X e m) (hbase : attributeBase e "values" X.env (eval e X.env) = eval e X.env := by rfl) (hline : (apos.endLine == cpos.line) = true := by rfl) : EI X tg (.Call (.Attribute e "values" apos) [] [] cpos) (iValD m) := by
  intro B W hB L
  refine pi_mono (pi_values (hl B W hB L) hbase hline) ?_
  rintro σ H Q ⟨F, ρ, g, QD, R, w, q⟩
  refine ⟨F, ρ, g, _, R, w, ?_⟩
  intro v1 H1 F1 g1 d1 k1 R1 r1 w1
  cases d1 with
  | dic ks ds =>
    obtain ⟨a, od, kvs, rfl, ea, hk, hn, rk, rv⟩ := r1.dic_inv
    have hl : ds.length = kvs.length := by rw [← rv.length]; simp
    refine ⟨a, od, kvs, rfl, R1.fh _ _ ea, q _ H1 F1 g1 _ k1 R1 ⟨fun i H h z => walk_values.goes i H (by omega) (z _ _ ea), fun H z => by rw [hl]; exact walk_values.stops H (z _ _ ea), fun i H F2 x H' h z z2 y => ?_⟩ w1⟩
    obtain ⟨e1, kk, e2⟩ := walk_values.yields i H x H' (by omega) (z2 _ _ (z _ _ ea)) y
    obtain ⟨d, hd, rd⟩ := rv.getV (i := i) (v := x) (by rw [List.getElem?_map, e2]; rfl)
    exact ⟨d, F2, hd, by rw [e1]; exact Gro.refl z2, rd.mono z⟩
  | _ => exact w1.elim
end
end DL

set_option Elab.async false
set_option linter.all false
set_option maxRecDepth 100000
namespace DL
open PySem PySem.Spec PyProof.Rows L2
/-- an object that nobody knows yet is written and frozen -/
theorem Rl.lay1 {B : Bs} {F : Hp} {ρ : Rho} {g : G} {σ : L2.St} {H : Hp} {p : Addr} {o : HO} (R : Rl B F ρ g σ H) (hf : F p = none) (hg : g p = none) (h0 : B.H0 p = none)
    (hs : ∀ (i : Nat) (es : List D), ρ[i]? = some (.acc es) → σ[i]? ≠ some (some (.ref p))) : Rl B (upd F p o) ρ g σ (upd H p o) := by
  have ff : Same F (upd F p o) := fun b u e => by rw [upd_ne (ne_of_none e hf)]; exact e
  refine ⟨fun b u e => ?_, R.f0.trans ff, fun b u e => ?_, fun b u e => ?_, fun b u e n => ?_, fun b u e => ?_, fun i s e => ?_, R.dj, R.ln⟩
  · by_cases hb : b = p
    · subst hb; rw [upd_same] at e ⊢; exact e
    · rw [upd_ne hb] at e ⊢; exact R.fh _ _ e
  · by_cases hb : b = p
    · subst hb; exact .inr h0
    · rw [upd_ne hb] at e; exact R.fn b u e
  · obtain ⟨u', e'⟩ := R.dm b u e
    by_cases hb : b = p
    · subst hb; exact ⟨_, upd_same⟩
    · exact ⟨u', by rw [upd_ne hb]; exact e'⟩
  · have hb : b ≠ p := fun z => by subst z; rw [h0] at e; cases e
    rw [upd_ne hb]; exact R.fr b u e n
  · have hb : b ≠ p := fun z => by subst z; rw [hg] at e; cases e
    obtain ⟨a1, a2, a3⟩ := R.gg b u e
    refine ⟨a1.mono (fun _ _ _ r => r.mono ff) (fun b w gb _ z => ?_) (fun _ _ q => q) (fun _ _ z => ff _ _ z) e, by rw [upd_ne hb]; exact a2, a3⟩
    rw [upd_ne (fun y => by subst y; rw [hg] at gb; cases gb)]
    exact z
  · have := R.sl i s e
    cases s with
    | no => trivial
    | val d => obtain ⟨v, e1, r⟩ := this; exact ⟨v, e1, r.mono ff⟩
    | acc ds =>
      obtain ⟨a, xs, e1, h1, h2, h3, h4, h5⟩ := this
      have ha : a ≠ p := fun z => by subst z; exact hs i ds e e1
      exact ⟨a, xs, e1, by rw [upd_ne ha]; exact h1, h2.mono ff, by rw [upd_ne ha]; exact h3, h4, h5⟩
section
variable {X : Cx} {e e2 o f tg : Expr} {md mk mx m : EM D} {ms : EM (List D)} {apos cpos pos p : Pos}
theorem ei_itemD {elts : List Expr} {kk : Nat} {tpos : Pos} (hl : EV X e m) (hbase : attributeBase e "items" X.env (eval e X.env) = eval e X.env := by rfl) (hline : (apos.endLine == cpos.line) = true := by rfl) : EI X (.Tuple elts kk tpos) (.Call (.Attribute e "items" apos) [] [] cpos) (iItemD m) := by
  intro B W hB L
  refine pi_mono (pi_items (hl B W hB L) hbase hline) ?_
  rintro σ H Q ⟨F, ρ, g, QD, R, w, q⟩
  refine ⟨F, ρ, g, _, R, w, ?_⟩
  intro v1 H1 F1 g1 d1 k1 R1 r1 w1
  cases d1 with
  | dic ks ds =>
    obtain ⟨a, od, kvs, rfl, ea, hk, hn, rk, rv⟩ := r1.dic_inv
    have hl : ((ks.zip ds).map fun kv => D.ptp [ofKey kv.1, kv.2]).length = kvs.length := by rw [List.length_map, ← rk.length]
    refine ⟨a, od, kvs, rfl, R1.fh _ _ ea, q _ H1 F1 g1 _ k1 R1 ⟨fun i H h z => walk_items.goes i H (by omega) (z _ _ ea), fun H z => by rw [hl]; exact walk_items.stops H (z _ _ ea), fun i H F2 x H' h z z2 y => ?_⟩ w1⟩
    obtain ⟨T, u, v, rfl, hT, rfl, e1, e2⟩ := walk_items.yields i H x H' (by omega) (z2 _ _ (z _ _ ea)) y
    have hi : i < kvs.length := by omega
    simp only [List.getElem?_eq_getElem hi, Option.map_some, Option.some.injEq] at e1 e2
    subst e1
    subst e2
    obtain ⟨d, hd, rd⟩ := rv.getV (i := i) (v := kvs[i].2) (by rw [List.getElem?_map, List.getElem?_eq_getElem hi]; rfl)
    have hz : (ks.zip ds)[i]? = some (kvs[i].1, d) := by
      rw [List.getElem?_zip_eq_some]
      exact ⟨by rw [← hk, List.getElem?_map, List.getElem?_eq_getElem hi]; rfl, hd⟩
    have G1 := Gro.lay (o := .tup [kV kvs[i].1, kvs[i].2]) z2 hT
    refine ⟨_, _, by rw [List.getElem?_map, hz]; rfl, G1, .ptp (.inl (.inl upd_same)) (.cons (ofKey_rep _) (.cons (rd.mono (z.trans G1.ff)) .nil))⟩
  | _ => exact w1.elim
/-! ### dict(pairs) -/
def pairOf : D → Option (Key × D)
  | .tup [k, d] => (keyOf k).map fun k => (k, d)
  | .ptp [k, d] => (keyOf k).map fun k => (k, d)
  | _ => none
def pairsOf : List D → Option (List (Key × D))
  | [] => some []
  | d :: ds => match pairOf d, pairsOf ds with
    | some p, some r => some (p :: r)
    | _, _ => none
theorem pairOf_rep {K : PySem.W.Frag} {F : Hp} {v : V} {d : D} {kd : Key × D} (r : Rep K F v d) (h : pairOf d = some kd) : ∃ a u, v = .ref a ∧ SqT K F a [kV kd.1, u] ∧ Rep K F u kd.2 := by
  unfold pairOf at h
  split at h
  · rename_i k d'
    cases hk : keyOf k with
    | none => rw [hk] at h; cases h
    | some key =>
      rw [hk] at h
      cases h
      cases r with
      | tup hs hr =>
        cases hr with
        | cons r1 r2 =>
          cases r2 with
          | cons r2 r3 =>
            cases r3
            obtain ⟨rfl, _⟩ := key_rep r1 hk
            exact ⟨_, _, rfl, hs.sqT, r2⟩
  · rename_i k d'
    cases hk : keyOf k with
    | none => rw [hk] at h; cases h
    | some key =>
      rw [hk] at h
      cases h
      cases r with
      | ptp hs hr =>
        cases hr with
        | cons r1 r2 =>
          cases r2 with
          | cons r2 r3 =>
            cases r3
            obtain ⟨rfl, _⟩ := key_rep r1 hk
            exact ⟨_, _, rfl, hs, r2⟩
  · cases h
theorem pairsOf_rep {K : PySem.W.Frag} {F : Hp} : ∀ {ds : List D} {vs : List V} {kds : List (Key × D)}, RepL K F vs ds → pairsOf ds = some kds →
    ∃ (ps : List Addr) (kvs : List (Key × V)), vs = ps.map V.ref ∧ Paired (fun p kv => SqT K F p [kV kv.1, kv.2]) ps kvs ∧ RepK K F kvs kds
  | [], vs, kds, r, h => by
    cases r
    cases h
    exact ⟨[], [], rfl, .nil, .nil⟩
  | d :: ds, vs, kds, r, h => by
    cases r with
    | cons r1 r2 =>
      rw [pairsOf] at h
      cases h1 : pairOf d with
      | none => rw [h1] at h; cases h
      | some p =>
        cases h2 : pairsOf ds with
        | none => rw [h1, h2] at h; cases h
        | some q =>
          rw [h1, h2] at h
          cases h
          obtain ⟨a, u, rfl, hs, hr⟩ := pairOf_rep r1 h1
          obtain ⟨ps, kvs, rfl, hp, hk⟩ := pairsOf_rep r2 h2
          exact ⟨a :: ps, (p.1, u) :: kvs, rfl, .cons hs hp, .cons hr hk⟩
theorem paired_mono {α β : Type} {G G' : α → β → Prop} (h : ∀ a b, G a b → G' a b) : ∀ {l : List α} {r : List β}, Paired G l r → Paired G' l r
  | _, _, .nil => .nil
  | _, _, .cons x y => .cons (h _ _ x) (paired_mono h y)
@[simp] def dictD : List D → Option D
  | [.lst ps] => (pairsOf ps).map fun kds => mkDic (mergeD [] kds)
  | _ => none
theorem cs_dict (hc : X.calm = true) : CS X (.type "dict") dictD := by
  intro pins s σ H F xs us ds dz Q I hF rx hx hf q
  unfold dictD at hf
  split at hf
  · rename_i es
    cases hp : pairsOf es with
    | none => rw [hp] at hf; cases hf
    | some kds =>
      rw [hp] at hf
      cases hf
      obtain ⟨v, rfl, r⟩ := hx.one_inv
      cases r with
      | @lst a vs _ hs hr =>
        obtain ⟨ps, kvs, rfl, pp, rk⟩ := pairsOf_rep hr hp
        refine thn (call_dictP hc pins s σ H _ us (fun x H1 => ∃ p, x = .ref p ∧ H p = none ∧ H1 = upd H p (.dK (mergeK [] kvs))) I rx ⟨a, ps, kvs, rfl, hF.seq hs, paired_mono (fun _ _ z => same_sqT hF z) pp, fun p hp => ⟨p, rfl, hp, rfl⟩⟩) ?_
        rintro u s1 ⟨x, H1, I1, r1, p, rfl, hp, rfl⟩
        obtain ⟨od, I2⟩ := I1.lock (d := p) (u := .dK (mergeK [] kvs)) upd_same True.intro
        rw [upd_upd] at I2
        have G1 := Gro.lay (o := .frz od (.dK (mergeK [] kvs))) hF hp
        refine ⟨.ref p, _, I2, r1, q _ _ _ G1 (RepK.rep (RepK.merge (rk.mono G1.ff) .nil) upd_same (mergeD_nodup (by simp)))⟩
  · cases hf
/-! ### displays -/
/-- the pairs of a display -/
def EPr (X : Cx) (pos : Pos) (keys : List (Option Expr)) (values : List Expr) (m : EM (List (D × D))) : Prop := ∀ B W, B.K = X.K → Lk X B W → ∃ trs, PPs X pos keys values trs ∧ ∀ σ H (Q : List (V × V) → Hp → Prop),
  (∃ F ρ g QD, Rl B F ρ g σ H ∧ m ρ g QD (fun x g' => W x ρ g') ∧ ∀ ps H' F' g' ds, Ste g H F g' H' F' → Rl B F' ρ g' σ H' → RepL B.K F' (ps.map (·.1)) (ds.map (·.1)) → RepL B.K F' (ps.map (·.2)) (ds.map (·.2)) → QD ds g' → Q ps H') → tPairs trs σ H Q
@[simp] def pNil : EM (List (D × D)) := fun _ g Q _ => Q [] g
@[simp] def pCons (mk md : EM D) (ms : EM (List (D × D))) : EM (List (D × D)) := fun ρ g Q E => mk ρ g (fun k g1 => md ρ g1 (fun d g2 => ms ρ g2 (fun r g3 => Q ((k, d) :: r) g3) E) E) E
theorem epr_nil : EPr X pos [] [] pNil := by
  intro B W hB L
  refine ⟨[], pps_nil, ?_⟩
  rintro σ H Q ⟨F, ρ, g, QD, R, w, q⟩
  exact q [] H F g [] Ste.refl R .nil .nil w
theorem epr_cons {k v : Expr} {ks : List (Option Expr)} {vs : List Expr} {mk mv : EM D} {ms : EM (List (D × D))} (hk : EV X k mk) (hv : EV X v mv) (h : EPr X pos ks vs ms) : EPr X pos (some k :: ks) (v :: vs) (pCons mk mv ms) := by
  intro B W hB L
  obtain ⟨trs, hp, ht⟩ := h B W hB L
  refine ⟨_, pps_cons (hk B W hB L) (hv B W hB L) hp, ?_⟩
  rintro σ H Q ⟨F, ρ, g, QD, R, w, q⟩
  refine ⟨F, ρ, g, _, R, w, ?_⟩
  intro v1 H1 F1 g1 d1 k1 R1 r1 w1
  refine ⟨F1, ρ, g1, _, R1, w1, ?_⟩
  intro v2 H2 F2 g2 d2 k2 R2 r2 w2
  refine ht σ H2 _ ⟨F2, ρ, g2, _, R2, w2, ?_⟩
  intro ps H3 F3 g3 ds k3 R3 ra rb w3
  exact q _ H3 F3 g3 ((d1, d2) :: ds) ((k1.trans k2).trans k3) R3 (.cons (r1.mono (k2.trans k3).ff) ra) (.cons (r2.mono k3.ff) rb) w3
def keyed : List (D × D) → Option (List (Key × D))
  | [] => some []
  | p :: r => match keyOf p.1, keyed r with
    | some k, some q => some ((k, p.2) :: q)
    | _, _ => none
theorem keyed_rep {K : PySem.W.Frag} {F : Hp} : ∀ {ds : List (D × D)} {ps : List (V × V)} {kds : List (Key × D)}, RepL K F (ps.map (·.1)) (ds.map (·.1)) → RepL K F (ps.map (·.2)) (ds.map (·.2)) → keyed ds = some kds →
    ∃ kvs : List (Key × V), ps = kvs.map (fun kv => (kV kv.1, kv.2)) ∧ RepK K F kvs kds
  | [], ps, kds, ra, rb, h => by
    cases ps with
    | nil => cases h; exact ⟨[], rfl, .nil⟩
    | cons p r => cases ra
  | d :: ds, ps, kds, ra, rb, h => by
    cases ps with
    | nil => cases ra
    | cons p r =>
      cases ra with
      | cons a1 a2 =>
        cases rb with
        | cons b1 b2 =>
          rw [keyed] at h
          cases h1 : keyOf d.1 with
          | none => rw [h1] at h; cases h
          | some k =>
            cases h2 : keyed ds with
            | none => rw [h1, h2] at h; cases h
            | some q =>
              rw [h1, h2] at h
              cases h
              obtain ⟨kvs, rfl, rk⟩ := keyed_rep a2 b2 h2
              obtain ⟨e1, _⟩ := key_rep a1 h1
              exact ⟨(k, p.2) :: kvs, by rw [List.map_cons, ← e1], .cons b1 rk⟩
theorem keyed_length : ∀ {ds : List (D × D)} {kds : List (Key × D)}, keyed ds = some kds → kds.length = ds.length
  | [], _, h => by cases h; rfl
  | d :: ds, kds, h => by
    rw [keyed] at h
    cases h1 : keyOf d.1 with
    | none => rw [h1] at h; cases h
    | some k =>
      cases h2 : keyed ds with
      | none => rw [h1, h2] at h; cases h
      | some q =>
        rw [h1, h2] at h
        cases h
        simp [keyed_length h2]
@[simp] def eDisp (ms : EM (List (D × D))) : EM D := fun ρ g Q E => ms ρ g (fun ps g1 => match keyed ps with | some kds => kds.length ≤ 15 ∧ Q (mkDic (mergeD [] kds)) g1 | none => False) E
theorem ev_disp {keys : List (Option Expr)} {values : List Expr} {ms : EM (List (D × D))} (h : EPr X pos keys values ms) (hall : keys.all (·.isSome) = true := by rfl) (hl : keys.length = values.length := by rfl) (h0 : keys ≠ [] := by simp) (h15 : keys.length ≤ 15 := by decide) :
    EV X (.Dict keys values pos) (eDisp ms) := by
  intro B W hB L
  obtain ⟨trs, hp, ht⟩ := h B W hB L
  refine ⟨fun pins s σ H Q I w => ?_⟩
  obtain ⟨F, ρ, g, QD, R, w, q⟩ := w
  refine thn ((pe_disp hp hall hl h0 h15).run pins s σ H (fun x H1 => ∃ p m, x = .ref p ∧ H1 p = some (.dK m) ∧ ∀ od, Q (.ref p) (upd H1 p (.frz od (.dK m)))) I ?_) ?_
  · intro p hp
    have G0 := Gro.lay0 (o := .dK []) R.fh hp
    refine ht σ _ _ ⟨F, ρ, g, _, R.gro G0, w, ?_⟩
    intro ps H1 F1 g1 ds k1 R1 ra rb w1
    have gp : g p = none := R.fresh_g hp
    obtain ⟨hp1, gp1⟩ := k1.kp p _ upd_same gp
    cases hk : keyed ds with
    | none => rw [hk] at w1; exact w1.elim
    | some kds =>
      rw [hk] at w1
      obtain ⟨h15, w1⟩ := w1
      obtain ⟨kvs, rfl, rk⟩ := keyed_rep ra rb hk
      refine ⟨hp1, kvs, rfl, by rw [rk.length]; exact h15, p, mergeK [] kvs, rfl, upd_same, fun od => ?_⟩
      rw [upd_upd]
      have f1 : F1 p = none := by
        cases z : F1 p with
        | none => rfl
        | some u =>
          have := R1.fh p u z
          rcases k1.fn p u z with y | y
          · rw [R.fh.free hp] at y; cases y
          · rw [upd_same] at y; cases y
      have R2 := R1.lay1 (o := .frz od (.dK (mergeK [] kvs))) f1 gp1 (R.fresh_0 hp) (R.fresh_s hp)
      have ff : Same F1 (upd F1 p (.frz od (.dK (mergeK [] kvs)))) := fun b u e => by rw [upd_ne (ne_of_none e f1)]; exact e
      refine q _ _ _ g1 _ ⟨fun b u e => ff b u (k1.ff b u e), fun b u e n => ?_, fun b u e => ?_, fun b u e => ?_⟩ R2 (RepK.rep (RepK.merge (rk.mono ff) .nil) upd_same (mergeD_nodup (by simp))) w1
      · have hb : b ≠ p := ne_of_none e hp
        obtain ⟨a1, a2⟩ := k1.kp b u (by rw [upd_ne hb]; exact e) n
        exact ⟨by rw [upd_ne hb]; exact a1, a2⟩
      · have hb : b ≠ p := ne_of_none e hp
        obtain ⟨u', a1⟩ := k1.dm b u (by rw [upd_ne hb]; exact e)
        exact ⟨u', by rw [upd_ne hb]; exact a1⟩
      · by_cases hb : b = p
        · subst hb; exact .inr hp
        · rw [upd_ne hb] at e
          rcases k1.fn b u e with y | y
          · exact .inl y
          · rw [upd_ne hb] at y; exact .inr y
  · rintro u s1 ⟨x, H1, I1, r1, p, m, rfl, hp, q1⟩
    obtain ⟨od, I2⟩ := I1.lock hp True.intro
    exact ⟨.ref p, _, I2, r1, q1 od⟩
theorem ev_disp0 : EV X (.Dict [] [] pos) (eC (.dic [] [])) := by
  intro B W hB L
  refine ⟨fun pins s σ H Q I w => ?_⟩
  obtain ⟨F, ρ, g, QD, R, w, q⟩ := w
  refine thn (pe_dnewK.run pins s σ H (fun x H1 => ∃ p, x = .ref p ∧ H p = none ∧ H1 = upd H p (.dK [])) I fun p hp => ⟨p, rfl, hp, rfl⟩) ?_
  rintro u s1 ⟨x, H1, I1, r1, p, rfl, hp, rfl⟩
  obtain ⟨od, I2⟩ := I1.lock (d := p) (u := .dK []) upd_same True.intro
  rw [upd_upd] at I2
  have G1 := Gro.lay (o := .frz od (.dK [])) R.fh hp
  exact ⟨.ref p, _, I2, r1, q _ _ _ g _ G1.ste (R.gro G1) (.dic (kvs := []) upd_same rfl (by simp) .nil) w⟩
end
end DL

set_option Elab.async false
set_option linter.all false
set_option maxRecDepth 100000
namespace DL
open PySem PySem.Spec PyProof.Rows L2
/-! ### a comprehension of two clauses -/
def lcIn (τ1 : Tg) (mt1 : EM Bool) (me : EM D) (ρ1 : Rho) (K : List D → G → Prop) : List D → List D → G → Prop
  | [], acc, g => K acc g
  | d :: ds, acc, g => match τ1.bd d ρ1 with
    | none => False
    | some ρ2 => mt1 ρ2 g (fun k g1 => if k = true then me ρ2 g1 (fun y g2 => acc.length < sizeLine ∧ lcIn τ1 mt1 me ρ1 K ds (acc ++ [y]) g2) (fun _ _ => False) else lcIn τ1 mt1 me ρ1 K ds acc g1) (fun _ _ => False)
def lcOut (τ : Tg) (mt : EM Bool) (mi1 : EM (List D)) (τ1 : Tg) (mt1 : EM Bool) (me : EM D) (vs1 : List Nat) (ρ : Rho) (Q : List D → G → Prop) : List D → List D → G → Prop
  | [], acc, g => Q acc g
  | d :: ds, acc, g => match τ.bd d ρ with
    | none => False
    | some ρ' => mt ρ' g (fun k g1 => if k = true then mi1 ρ' g1 (fun es g2 => lcIn τ1 mt1 me (wipeR ρ' vs1) (fun acc g => lcOut τ mt mi1 τ1 mt1 me vs1 ρ Q ds acc g) es acc g2) (fun _ _ => False) else lcOut τ mt mi1 τ1 mt1 me vs1 ρ Q ds acc g1) (fun _ _ => False)
def nLc2 (mi : EM (List D)) (τ : Tg) (mt : EM Bool) (mi1 : EM (List D)) (τ1 : Tg) (mt1 : EM Bool) (me : EM D) (own vs1 : List Nat) : EM (List D) := fun ρ g Q E => noAcc ρ = true ∧ mi ρ g (fun ds g1 => lcOut τ mt mi1 τ1 mt1 me vs1 (wipeR ρ own) Q ds [] g1) E
theorem noAcc_set {d : D} : ∀ {ρ : Rho} {i : Nat}, noAcc ρ = true → noAcc (ρ.set i (.val d)) = true
  | [], _, h => h
  | s :: r, 0, h => by
    have h' : noAcc r = true := by cases s <;> first | exact h | cases h
    exact h'
  | s :: r, i + 1, h => by
    have h' : noAcc r = true := by cases s <;> first | exact h | cases h
    have := noAcc_set (d := d) (i := i) h'
    cases s <;> first | exact this | cases h
theorem noAcc_setR : ∀ {is : List Nat} {ds : List D} {ρ ρ' : Rho}, noAcc ρ = true → setR is ds ρ = some ρ' → noAcc ρ' = true
  | [], [], _, _, h, e => by simp only [setR, Option.some.injEq] at e; subst e; exact h
  | i :: is, d :: ds, _, _, h, e => by rw [setR] at e; exact noAcc_setR (noAcc_set h) e
  | [], _ :: _, _, _, _, e => by simp [setR] at e
  | _ :: _, [], _, _, _, e => by simp [setR] at e
theorem noAcc_setM : ∀ {l : List (Nat ⊕ List Nat)} {ds : List D} {ρ ρ' : Rho}, noAcc ρ = true → setM l ds ρ = some ρ' → noAcc ρ' = true
  | [], [], _, _, h, e => by simp only [setM, Option.some.injEq] at e; subst e; exact h
  | .inl i :: l, d :: ds, _, _, h, e => by rw [setM] at e; exact noAcc_setM (noAcc_set h) e
  | .inr is :: l, d :: ds, ρ, ρ', h, e => by
    cases d <;> simp [setM] at e
    · split at e
      · rename_i e1; exact noAcc_setM (noAcc_setR h e1) e
      · cases e
    · split at e
      · rename_i e1; exact noAcc_setM (noAcc_setR h e1) e
      · cases e
  | [], _ :: _, _, _, _, e => by simp [setM] at e
  | .inl _ :: _, [], _, _, _, e => by simp [setM] at e
  | .inr _ :: _, [], _, _, _, e => by simp [setM] at e
theorem noAcc_bd {τ : Tg} {d : D} {ρ ρ' : Rho} (h : noAcc ρ = true) (e : τ.bd d ρ = some ρ') : noAcc ρ' = true := by
  cases τ with
  | nm i => simp only [Tg.bd, Option.some.injEq] at e; subst e; exact noAcc_set h
  | tp is =>
    cases d <;> simp [Tg.bd] at e
    · exact noAcc_setR h e
    · exact noAcc_setR h e
  | tn l =>
    cases d <;> simp [Tg.bd] at e
    · exact noAcc_setM h e
    · exact noAcc_setM h e
section
variable {X : Cx} {mt mt1 : EM Bool}
theorem lc2_w {B : Bs} {W : Wi} {τ τ1 : Tg} {mi mi1 : EM (List D)} {me : EM D} {vs vs1 : List Nat} (hv : ∀ i ∈ τ.vs, i ∈ vs) (hv1 : ∀ i ∈ τ1.vs, i ∈ vs1) : ∀ σ H Q, tN B W (nLc2 mi τ mt mi1 τ1 mt1 me vs vs1) σ H Q →
    tLc2 (iD B W mi) (τ.t B.K) (tT B (fun _ _ _ => False) mt) (iD B (fun _ _ _ => False) mi1) (τ1.t B.K) (tT B (fun _ _ _ => False) mt1) (tE B (fun _ _ _ => False) me) vs vs1 σ H Q := by
  rintro σ H Q ⟨F, ρ, g, QD, R, ⟨na, w⟩, q⟩
  refine ⟨F, ρ, g, _, R, w, ?_⟩
  intro J H1 F1 g1 ds k1 R1 wk w1 Dd hD
  -- what holds of the list that grows
  let St : Hp → Hp → G → List D → Prop := fun Hi Fi gi acc => ∃ ys, Ste g1 H1 F1 gi Hi Fi ∧ Hi Dd = some (.lst ys) ∧ RepL B.K Fi ys acc ∧ Fi Dd = none ∧ gi Dd = none
  have step : ∀ {Hi Fi : Hp} {gi : G} {acc : List D} {H' F' : Hp} {g' : G}, St Hi Fi gi acc → Ste gi Hi Fi g' H' F' → St H' F' g' acc := by
    rintro Hi Fi gi acc H' F' g' ⟨ys, ki, hDi, ri, fD, gD⟩ k
    obtain ⟨z1, z2⟩ := k.kp Dd _ hDi gD
    refine ⟨ys, ki.trans k, z1, ri.mono k.ff, ?_, z2⟩
    cases z : F' Dd with
    | none => rfl
    | some u =>
      rcases k.fn Dd u z with z' | z'
      · rw [fD] at z'; cases z'
      · rw [hDi] at z'; cases z'
  have nw : noAcc (wipeR ρ vs) = true := noAcc_wipe na vs
  let Oi : Nat → Hp → Prop := fun i Hi => ∃ Fi gi acc, Rl B Fi (wipeR ρ vs) gi (L2.wipe σ vs) Hi ∧ St Hi Fi gi acc ∧ lcOut τ mt mi1 τ1 mt1 me vs1 (wipeR ρ vs) QD (ds.drop i) acc gi
  refine ⟨fun i m Hi => m = ds.length - i ∧ i ≤ ds.length ∧ Oi i Hi, ⟨ds.length, by simp, Nat.zero_le _, F1, g1, [], ?_, ?_, w1⟩, ?_⟩
  · exact (R1.wipe vs).gro (Gro.lay0 R1.fh hD)
  · exact ⟨[], (Gro.lay0 R1.fh hD).ste, upd_same, .nil, R1.fh.free hD, R1.fresh_g hD⟩
  rintro i m Hi ⟨rfl, hi, Fi, gi, acc, Ri, si, wi⟩
  obtain ⟨ys0, ki, _⟩ := id si
  by_cases hlt : i < ds.length
  · refine .inr ⟨wk.goes i Hi hlt (ki.ff.trans Ri.fh), Oi (i + 1), fun H' h => ⟨ds.length - (i + 1), by omega, rfl, hlt, h⟩, fun x H' y => ?_⟩
    obtain ⟨d, Fy, hd, Gy, ry⟩ := wk.yields i Hi Fi x H' hlt ki.ff Ri.fh y
    have hdrop : ds.drop i = d :: ds.drop (i + 1) := by
      rw [List.drop_eq_getElem_cons hlt]
      rw [List.getElem?_eq_getElem hlt] at hd
      rw [Option.some.inj hd]
    rw [hdrop] at wi
    unfold lcOut at wi
    have Ry := Ri.gro Gy
    cases hb : τ.bd d (wipeR ρ vs) with
    | none => rw [hb] at wi; exact wi.elim
    | some ρ' =>
      rw [hb] at wi
      have n' := noAcc_bd nw hb
      refine tg_w Ry ry hb fun σ2 R2 hw => ⟨?_, ?_⟩
      · rw [hw vs hv, wipe_wipe]
      refine ⟨Fy, ρ', gi, _, R2, wi, ?_⟩
      intro k H3 F3 g3 k3 R3 w3
      have k13 : Ste gi Hi Fi g3 H3 F3 := Gy.ste.trans k3
      cases k with
      | false =>
        rw [if_neg Bool.false_ne_true] at w3 ⊢
        exact ⟨F3, g3, acc, Ri.back R3 k13.ff nw, step si k13, w3⟩
      | true =>
        rw [if_pos rfl] at w3 ⊢
        refine ⟨F3, ρ', g3, _, R3, w3, ?_⟩
        intro J1 H4 F4 g4 es k4 R4 wk1 w4
        have s4 := step si (k13.trans k4)
        refine ⟨fun j k Hj => k = es.length - j ∧ j ≤ es.length ∧ ∃ Fj gj acc, Rl B Fj (wipeR ρ' vs1) gj (L2.wipe σ2 vs1) Hj ∧ Same F4 Fj ∧ St Hj Fj gj acc ∧ lcIn τ1 mt1 me (wipeR ρ' vs1) (fun acc g => lcOut τ mt mi1 τ1 mt1 me vs1 (wipeR ρ vs) QD (ds.drop (i + 1)) acc g) (es.drop j) acc gj,
          ⟨es.length, by simp, Nat.zero_le _, F4, g4, acc, R4.wipe vs1, Same.refl F4, s4, w4⟩, ?_⟩
        rintro j k Hj ⟨rfl, hj, Fj, gj, accj, Rj, ej, sj, wj⟩
        have nj : noAcc (wipeR ρ' vs1) = true := noAcc_wipe n' vs1
        have eij : Same Fi Fj := (k13.trans k4).ff.trans ej
        by_cases hlt1 : j < es.length
        · refine .inr ⟨wk1.goes j Hj hlt1 (ej.trans Rj.fh), fun H' => ∃ Fj gj acc, Rl B Fj (wipeR ρ' vs1) gj (L2.wipe σ2 vs1) H' ∧ Same F4 Fj ∧ St H' Fj gj acc ∧ lcIn τ1 mt1 me (wipeR ρ' vs1) (fun acc g => lcOut τ mt mi1 τ1 mt1 me vs1 (wipeR ρ vs) QD (ds.drop (i + 1)) acc g) (es.drop (j + 1)) acc gj,
            fun H' h => ⟨es.length - (j + 1), by omega, rfl, hlt1, h⟩, fun x1 H5 y1 => ?_⟩
          obtain ⟨d1, Fz, hd1, Gz, rz⟩ := wk1.yields j Hj Fj x1 H5 hlt1 ej Rj.fh y1
          have hdrop1 : es.drop j = d1 :: es.drop (j + 1) := by
            rw [List.drop_eq_getElem_cons hlt1]
            rw [List.getElem?_eq_getElem hlt1] at hd1
            rw [Option.some.inj hd1]
          rw [hdrop1] at wj
          unfold lcIn at wj
          have Rz := Rj.gro Gz
          cases hb1 : τ1.bd d1 (wipeR ρ' vs1) with
          | none => rw [hb1] at wj; exact wj.elim
          | some ρ2 =>
            rw [hb1] at wj
            refine tg_w Rz rz hb1 fun σ3 R5 hw1 => ⟨?_, ?_⟩
            · rw [hw1 vs1 hv1, wipe_wipe]
            refine ⟨Fz, ρ2, gj, _, R5, wj, ?_⟩
            intro kk H6 F6 g6 k6 R6 w6
            have k16 : Ste gj Hj Fj g6 H6 F6 := Gz.ste.trans k6
            cases kk with
            | false =>
              rw [if_neg Bool.false_ne_true] at w6 ⊢
              exact ⟨F6, g6, accj, Rj.back R6 k16.ff nj, ej.trans k16.ff, step sj k16, w6⟩
            | true =>
              rw [if_pos rfl] at w6 ⊢
              refine ⟨F6, ρ2, g6, _, R6, w6, ?_⟩
              intro v7 H7 F7 g7 d7 k7 R7 r7 ⟨hz, w7⟩
              have k17 := k16.trans k7
              obtain ⟨ys, kA, hD7, rA, fD7, gD7⟩ := step sj k17
              refine ⟨ys, hD7, by rw [rA.length]; exact hz, F7, g7, accj ++ [d7], ?_, ej.trans k17.ff, ⟨ys ++ [v7], ?_, upd_same, rA.append (.one r7), fD7, gD7⟩, w7⟩
              · exact (Rj.back R7 k17.ff nj).own_upd (R1.fresh_0 hD) gD7 fD7 (fun i es z => absurd z (noAcc_at nj))
              · refine ⟨kA.ff, fun a o e n => ?_, fun a o e => ?_, kA.fn⟩
                · rw [upd_ne (ne_of_none e hD)]
                  exact kA.kp a o e n
                · rw [upd_ne (ne_of_none e hD)]
                  exact kA.dm a o e
        · have e : j = es.length := by omega
          subst e
          rw [List.drop_length] at wj
          exact .inl ⟨wk1.stops Hj (ej.trans Rj.fh), Fj, gj, accj, Ri.back Rj eij nw, sj, wj⟩
  · have e : i = ds.length := by omega
    subst e
    rw [List.drop_length] at wi
    refine .inl ⟨wk.stops Hi (ki.ff.trans Ri.fh), ?_⟩
    obtain ⟨ys, _, hDi, ri, fD, gD⟩ := si
    exact q Dd ys Hi Fi gi acc (k1.trans ki) (R1.back Ri ki.ff na) (k1.none hD) hDi fD gD (R1.fresh_0 hD) (fun i es z => absurd z (noAcc_at na)) ri wi
theorem en_lc2 {elt tg iter tg1 iter1 : Expr} {ifs ifs1 : List Expr} {scope : Scope} {own : List (Str × Nat)} {vs1 : List Nat} {pos : Pos} {τ τ1 : Tg} {mi mi1 : EM (List D)} {me : EM D} (hc : X.calm = true) (hN : X.N.Nodup) (hi : EI X tg iter mi) (ok : BlkOk X.N X.env.scope scope own)
    (hg : ∀ (s : Shared) (H : Hp) (C : Addr) (cl : List (Str × Addr)) (fp : List Addr), EG (X.blk s H scope (compEnvC scope cl C X.env) fp) tg τ) (ht : ∀ (s : Shared) (H : Hp) (C : Addr) (cl : List (Str × Addr)) (fp : List Addr), ETs (X.blk s H scope (compEnvC scope cl C X.env) fp) ifs mt)
    (hi1 : ∀ (s : Shared) (H : Hp) (C : Addr) (cl : List (Str × Addr)) (fp : List Addr), EI (X.blk s H scope (compEnvC scope cl C X.env) fp) tg1 iter1 mi1)
    (hg1 : ∀ (s : Shared) (H : Hp) (C : Addr) (cl : List (Str × Addr)) (fp : List Addr), EG (X.blk s H scope (compEnvC scope cl C X.env) fp) tg1 τ1) (ht1 : ∀ (s : Shared) (H : Hp) (C : Addr) (cl : List (Str × Addr)) (fp : List Addr), ETs (X.blk s H scope (compEnvC scope cl C X.env) fp) ifs1 mt1)
    (he : ∀ (s : Shared) (H : Hp) (C : Addr) (cl : List (Str × Addr)) (fp : List Addr), EV (X.blk s H scope (compEnvC scope cl C X.env) fp) elt me) (hvo : ∀ i ∈ vs1, i ∈ own.map (·.2) := by decide) (hv : ∀ i ∈ τ.vs, i ∈ own.map (·.2) := by decide) (hv1 : ∀ i ∈ τ1.vs, i ∈ vs1 := by decide)
    (hs : ∀ x, foldedSetIterable iter X.env x = pure x := by intro _; rfl) (hs1 : ∀ env x, foldedSetIterable iter1 env x = pure x := by intro _ _; rfl) :
    EN X (.ListComp elt [⟨tg, iter, ifs, 0⟩, ⟨tg1, iter1, ifs1, 0⟩] scope pos) (nLc2 mi τ mt mi1 τ1 mt1 me (own.map (·.2)) vs1) := by
  intro B W hB L
  exact pe_mono (pe_lc2 (g := τ.t B.K) (g1 := τ1.t B.K) hc hN (hi B W hB L) ok hvo (fun s H C cl fp => by rw [hB]; exact hg s H C cl fp) (fun s H C cl fp => ht s H C cl fp B (fun _ _ _ => False) hB lk_false)
    (fun s H C cl fp => hi1 s H C cl fp B (fun _ _ _ => False) hB lk_false) (fun s H C cl fp => by rw [hB]; exact hg1 s H C cl fp) (fun s H C cl fp => ht1 s H C cl fp B (fun _ _ _ => False) hB lk_false) (fun s H C cl fp => he s H C cl fp B (fun _ _ _ => False) hB lk_false) hs hs1) (lc2_w hv hv1)
theorem sv_setLc2 {i : Nat} {y : Str} {py : Pos} {elt tg iter tg1 iter1 : Expr} {ifs ifs1 : List Expr} {scope : Scope} {own : List (Str × Nat)} {vs1 : List Nat} {pos spos : Pos} {τ τ1 : Tg} {mi mi1 : EM (List D)} {me : EM D} (hc : X.calm = true) (hN : X.N.Nodup) (hi : EI X tg iter mi) (ok : BlkOk X.N X.env.scope scope own)
    (hg : ∀ (s : Shared) (H : Hp) (C : Addr) (cl : List (Str × Addr)) (fp : List Addr), EG (X.blk s H scope (compEnvC scope cl C X.env) fp) tg τ) (ht : ∀ (s : Shared) (H : Hp) (C : Addr) (cl : List (Str × Addr)) (fp : List Addr), ETs (X.blk s H scope (compEnvC scope cl C X.env) fp) ifs mt)
    (hi1 : ∀ (s : Shared) (H : Hp) (C : Addr) (cl : List (Str × Addr)) (fp : List Addr), EI (X.blk s H scope (compEnvC scope cl C X.env) fp) tg1 iter1 mi1)
    (hg1 : ∀ (s : Shared) (H : Hp) (C : Addr) (cl : List (Str × Addr)) (fp : List Addr), EG (X.blk s H scope (compEnvC scope cl C X.env) fp) tg1 τ1) (ht1 : ∀ (s : Shared) (H : Hp) (C : Addr) (cl : List (Str × Addr)) (fp : List Addr), ETs (X.blk s H scope (compEnvC scope cl C X.env) fp) ifs1 mt1)
    (he : ∀ (s : Shared) (H : Hp) (C : Addr) (cl : List (Str × Addr)) (fp : List Addr), EV (X.blk s H scope (compEnvC scope cl C X.env) fp) elt me)
    (hsw : swapsWith (.ListComp elt [⟨tg, iter, ifs, 0⟩, ⟨tg1, iter1, ifs1, 0⟩] scope pos) (some (.Name y py)) spos.line X.env = pure true) (hvo : ∀ i ∈ vs1, i ∈ own.map (·.2) := by decide) (hv : ∀ i ∈ τ.vs, i ∈ own.map (·.2) := by decide) (hv1 : ∀ i ∈ τ1.vs, i ∈ vs1 := by decide)
    (hy : X.N[i]? = some y := by rfl) (hyl : X.env.scope.names.lookup y = some .local := by rfl)
    (hs : ∀ x, foldedSetIterable iter X.env x = pure x := by intro _; rfl) (hs1 : ∀ env x, foldedSetIterable iter1 env x = pure x := by intro _ _; rfl) :
    SV X (.Assign [.Name y py] (.ListComp elt [⟨tg, iter, ifs, 0⟩, ⟨tg1, iter1, ifs1, 0⟩] scope pos) spos) (sSet i (eFz (nLc2 mi τ mt mi1 τ1 mt1 me (own.map (·.2)) vs1))) := by
  intro B W hB L
  refine ps_mono (ps_setLc2 (i := i) (g := τ.t B.K) (g1 := τ1.t B.K) hc hN hy hyl hsw (hi B W hB L) ok hvo (fun s H C cl fp => by rw [hB]; exact hg s H C cl fp) (fun s H C cl fp => ht s H C cl fp B (fun _ _ _ => False) hB lk_false)
    (fun s H C cl fp => hi1 s H C cl fp B (fun _ _ _ => False) hB lk_false) (fun s H C cl fp => by rw [hB]; exact hg1 s H C cl fp) (fun s H C cl fp => ht1 s H C cl fp B (fun _ _ _ => False) hB lk_false) (fun s H C cl fp => he s H C cl fp B (fun _ _ _ => False) hB lk_false) hs hs1) ?_
  rintro D σ H ⟨F, ρ, g, DD, R, w, q⟩
  exact lc2_w hv hv1 σ H _ (tN_fz σ H _ ⟨F, ρ, g, _, R, w, fun v H' F' g' d k R' r w' => q.nx _ H' F' _ g' k.ff (R'.set i r) w'⟩)
/-! ### (*xs, y) -/
@[simp] def esStar (m : EM D) (ms : EM (List D)) : EM (List D) := fun ρ g Q E => m ρ g (fun x g1 => match seqOf x with | some ds => ms ρ g1 (fun es g2 => Q (ds ++ es) g2) E | none => False) E
theorem es_star {e : Expr} {es : List Expr} {p : Pos} {m : EM D} {ms : EM (List D)} (ha : EV X e m) (hr : EVs X es ms) (hs : starEach (.Starred e p :: es) X.env = (true, eval e X.env) :: starEach es X.env := by rfl) : EVs X (.Starred e p :: es) (esStar m ms) := by
  intro B W hB L
  refine pa_mono (StX.pa_star (ha B W hB L) (hr B W hB L) hs) ?_
  rintro σ H Q ⟨F, ρ, g, QD, R, w, q⟩
  refine ⟨F, ρ, g, _, R, w, ?_⟩
  intro v1 H1 F1 g1 d1 k1 R1 r1 w1
  cases hd : seqOf d1 with
  | none => rw [hd] at w1; exact w1.elim
  | some ds =>
    rw [hd] at w1
    have fin : ∀ a xs, v1 = .ref a → (SqT X.K H1 a xs ∨ SqL X.K H1 a xs) → RepL B.K F1 xs ds → StX.tStar X.K (fun σ H Q => Q v1 H) (tEs B W ms) σ H1 Q := fun a xs e hx hr => by
      refine ⟨a, xs, e, hx, F1, ρ, g1, _, R1, w1, ?_⟩
      intro vs H2 F2 g2 es k2 R2 r2 w2
      exact q _ H2 F2 g2 _ (k1.trans k2) R2 ((hr.mono k2.ff).append r2) w2
    cases r1 with
    | tup hs hr => cases hd; have h := same_sqT R1.fh hs.sqT; rw [hB] at h; exact fin _ _ rfl (.inl h) hr
    | ptp hs hr => cases hd; have h := same_sqT R1.fh hs; rw [hB] at h; exact fin _ _ rfl (.inl h) hr
    | lst hs hr => cases hd; have h := R1.fh.seq hs; rw [hB] at h; exact fin _ _ rfl (.inr h) hr
    | _ => simp [seqOf] at hd
/-! ### max, min, sum of a list -/
def maxI : List Int → Int
  | [] => 0
  | n :: ns => ns.foldl max n
def minI : List Int → Int
  | [] => 0
  | n :: ns => ns.foldl min n
theorem foldl_max : ∀ (ns : List Int) (n : Int), (ns.foldl max n = n ∨ ns.foldl max n ∈ ns) ∧ n ≤ ns.foldl max n ∧ ∀ y ∈ ns, y ≤ ns.foldl max n
  | [], n => ⟨.inl rfl, Int.le_refl _, fun y h => by cases h⟩
  | m :: ns, n => by
    obtain ⟨h1, h2, h3⟩ := foldl_max ns (max n m)
    simp only [List.foldl_cons]
    refine ⟨?_, by omega, fun y hy => ?_⟩
    · rcases h1 with h1 | h1
      · rw [h1]
        by_cases hn : n ≤ m
        · right; rw [show max n m = m by omega]; exact List.mem_cons_self
        · left; omega
      · right; exact List.mem_cons_of_mem _ h1
    · rcases List.mem_cons.mp hy with rfl | hy
      · omega
      · exact h3 y hy
theorem foldl_min : ∀ (ns : List Int) (n : Int), (ns.foldl min n = n ∨ ns.foldl min n ∈ ns) ∧ ns.foldl min n ≤ n ∧ ∀ y ∈ ns, ns.foldl min n ≤ y
  | [], n => ⟨.inl rfl, Int.le_refl _, fun y h => by cases h⟩
  | m :: ns, n => by
    obtain ⟨h1, h2, h3⟩ := foldl_min ns (min n m)
    simp only [List.foldl_cons]
    refine ⟨?_, by omega, fun y hy => ?_⟩
    · rcases h1 with h1 | h1
      · rw [h1]
        by_cases hn : n ≤ m
        · left; omega
        · right; rw [show min n m = m by omega]; exact List.mem_cons_self
      · right; exact List.mem_cons_of_mem _ h1
    · rcases List.mem_cons.mp hy with rfl | hy
      · omega
      · exact h3 y hy
theorem maxI_mem : ∀ {ns : List Int}, ns ≠ [] → maxI ns ∈ ns
  | n :: ns, _ => by
    rcases (foldl_max ns n).1 with h | h
    · show ns.foldl max n ∈ n :: ns; rw [h]; exact List.mem_cons_self
    · exact List.mem_cons_of_mem _ h
theorem maxI_le : ∀ {ns : List Int} {y : Int}, y ∈ ns → y ≤ maxI ns
  | n :: ns, y, h => by
    rcases List.mem_cons.mp h with rfl | h
    · exact (foldl_max ns _).2.1
    · exact (foldl_max ns n).2.2 y h
theorem minI_mem : ∀ {ns : List Int}, ns ≠ [] → minI ns ∈ ns
  | n :: ns, _ => by
    rcases (foldl_min ns n).1 with h | h
    · show ns.foldl min n ∈ n :: ns; rw [h]; exact List.mem_cons_self
    · exact List.mem_cons_of_mem _ h
theorem minI_le : ∀ {ns : List Int} {y : Int}, y ∈ ns → minI ns ≤ y
  | n :: ns, y, h => by
    rcases List.mem_cons.mp h with rfl | h
    · exact (foldl_min ns _).2.1
    · exact (foldl_min ns n).2.2 y h
@[simp] def maxLD : List D → Option D
  | [.lst ds] => match intsOf ds with | some ns => if ns.isEmpty = true then none else some (.int (maxI ns)) | none => none
  | _ => none
@[simp] def minLD : List D → Option D
  | [.lst ds] => match intsOf ds with | some ns => if ns.isEmpty = true then none else some (.int (minI ns)) | none => none
  | _ => none
theorem cs_maxL (hc : X.calm = true) : CS X (.builtin "max") maxLD := by
  refine cs_of (cr_max hc) fun F H xs ds dz Q hF hx hf q => ?_
  unfold maxLD at hf
  split at hf
  · rename_i es
    cases hb : intsOf es with
    | none => rw [hb] at hf; cases hf
    | some ns =>
      rw [hb] at hf
      simp only at hf
      split at hf
      · cases hf
      · rename_i hne
        cases hf
        have hn : ns ≠ [] := fun z => hne (by rw [z]; rfl)
        rw [intsOf_eq hb] at hx
        obtain ⟨v, rfl, r⟩ := hx.one_inv
        cases r with
        | lst hs hr =>
          refine ⟨_, ns, rfl, by rw [← hr.ints]; exact hF.seq hs, List.length_pos_iff.mpr hn, fun m hm hle => ?_⟩
          have : m = maxI ns := Int.le_antisymm (maxI_le hm) (hle _ (maxI_mem hn))
          rw [this]
          exact q _ F H (Gro.refl hF) (.int _)
  · cases hf
theorem cs_minL (hc : X.calm = true) : CS X (.builtin "min") minLD := by
  refine cs_of (cr_min hc) fun F H xs ds dz Q hF hx hf q => ?_
  unfold minLD at hf
  split at hf
  · rename_i es
    cases hb : intsOf es with
    | none => rw [hb] at hf; cases hf
    | some ns =>
      rw [hb] at hf
      simp only at hf
      split at hf
      · cases hf
      · rename_i hne
        cases hf
        have hn : ns ≠ [] := fun z => hne (by rw [z]; rfl)
        rw [intsOf_eq hb] at hx
        obtain ⟨v, rfl, r⟩ := hx.one_inv
        cases r with
        | lst hs hr =>
          refine ⟨_, ns, rfl, by rw [← hr.ints]; exact hF.seq hs, List.length_pos_iff.mpr hn, fun m hm hle => ?_⟩
          have : m = minI ns := Int.le_antisymm (hle _ (minI_mem hn)) (minI_le hm)
          rw [this]
          exact q _ F H (Gro.refl hF) (.int _)
  · cases hf
end
end DL

set_option Elab.async false
set_option linter.all false
set_option maxRecDepth 100000
namespace DL
open PySem PySem.Spec PyProof.Rows L2
/-! ### set(list of ints) -/
/-- a set as it is made, with nothing in it -/
abbrev set0 (w : World) : Obj := { cls := .type "set", dict := none, data := .set #[] 0 (.fresh 0 0 (!w.params.followText "set-order")) }
section
variable {P : Program} {w : World} {A : Around} {E : Value → Shared → Prop} {s : Shared}
set_option maxHeartbeats 4000000 in
theorem set_list_ints {l : Addr} {xs : Array Value} (ns : List Int) {Q : Value → Shared → Prop} (hh : A.handled = none) (hl : s.heap.IsList l xs) (hi : IntsAre xs.toList ns) (hb : ns.length + 1 < scanBound)
    (q : ∀ (g : Heap) (tk c : Nat), SetR w g s.heap.objs.size (fun j => decide (j ∈ ns)) c → c ≤ ns.length → (∀ b o, s.heap.get? b = some o → g.get? b = some o) → Q (.ref s.heap.objs.size) { s with heap := g, toks := tk }) :
    wpAny (model P w) A (call (.type "set") [.ref l]) Q E s := by
  have len : xs.size = ns.length := by rw [← Array.length_toList]; exact IntsAre.length hi
  obtain ⟨cc, tl, mro⟩ := F.called_set.mro
  have m1 := F.called_set.made
  have m2 := F.called_set.sub
  have m3 := F.called_set.notType
  have m4 := F.called_set.canCreate
  have m5 := F.typeCall_set_1 (.ref l)
  have m6 := F.called_set.init.lookup
  have m7 := F.called_set.init.bind (.ref s.heap.objs.size)
  refine wpAny_call (codeAny_of_tree (wpAny_pure ⟨Code.quiet_builtin _ (by decide +kernel), codeAny_builtin F.entry_type_call ?_⟩))
  rw [Around.under_plain (weight_type_call_type "set" [.ref l] []) rfl]
  repeat (any_goals (first | assumption | wp_step))
  refine codeAny_mono (code_set_led1 (.ref l) (E := E) (Q₁ := fun u z => u = .ref s.heap.objs.size ∧ z = { s with heap := s.heap.push (set0 w) }) ⟨rfl, rfl⟩) fun r z hr => ?_
  cases r with
  | error e => exact hr
  | ok fl =>
    cases fl with
    | ret obj =>
      obtain ⟨rfl, rfl⟩ := hr
      have g0 : (s.heap.push (set0 w)).get? s.heap.objs.size = some (set0 w) := Heap.get?_push_size _ rfl
      have t0 : Shared.TypeIs { s with heap := s.heap.push (set0 w) } (.ref s.heap.objs.size) "set" := ⟨_, g0, rfl⟩
      repeat (any_goals (first | assumption | wp_step))
      let Rs : Value → Shared → Prop := fun r z => r = .none ∧ ∃ g tk c, z = { s with heap := g, toks := tk } ∧ SetR w g s.heap.objs.size (fun j => decide (j ∈ ns)) c ∧ c ≤ ns.length ∧ ∀ b o, s.heap.get? b = some o → g.get? b = some o
      refine codeAny_mono (codeAny_call_builtin (R := wants Rs E) F.called_set.init.plain F.entry_set_init (check_set_init_1 t0 ?_)) fun r2 z2 hr2 => ?_
      · obtain ⟨⟨oc, od, oda, osl⟩, ho, hc, n0, hd⟩ := hl
        simp only at hc hd
        subst hc hd
        have ho1 : (s.heap.push (set0 w)).get? l = some { cls := .type "list", dict := od, data := .seq xs n0, slots := osl } := Heap.get?_push_of_some _ ho
        have l1 : (s.heap.push (set0 w)).IsList l xs := ⟨_, ho1, rfl, n0, rfl⟩
        have p1 := F.sub_list_set
        have p2 := F.sub_list_frozenset
        have p3 : (Value.type "list" == Value.type "dict") = false := by decide
        unfold Builtin.«set.__init__» noKeywords Builtin.Frozenset.updateFrom
        generalize hit : pyIter = it
        wp_walk
        subst hit
        refine wpAny_pyIter_list l1 (wpAny_bind (wpAny_runValue ?_))
        have big : l < s.heap.objs.size := Heap.lt_size ho
        have sz1 : (s.heap.push (set0 w)).objs.size = s.heap.objs.size + 1 := Heap.size_push ..
        have W0 := (Walks.list (prog := P) (w := w) (A := A.in1.in1.in1) (by simp [hh]) (s.heap.push (set0 w)).objs.size l (Nat.ne_of_lt (by rw [sz1]; exact Nat.lt_succ_of_lt big)) xs).toS
        have nf : s.heap.objs.size ∉ [(s.heap.push (set0 w)).objs.size, l] := by
          rw [sz1]
          simp only [List.mem_cons, List.not_mem_nil, or_false, not_or]
          exact ⟨Nat.ne_of_lt (Nat.lt_succ_self _), Nat.ne_of_gt big⟩
        refine set_update_ints W0 s.heap.objs.size nf ns len hb (fun i v hv => ?_) (xs.size - 0) 0 _ (by omega) (Nat.zero_le _) ⟨⟨_, Heap.get?_push_size _ rfl, rfl, rfl⟩, l1.push _⟩ ⟨0, Nat.le_refl 0, setR_new_at (Heap.get?_push_of_some _ g0)⟩ fun z c hm hc hS => ?_
        · have hin : i < ns.length := by rw [← len]; exact (Array.getElem?_eq_some_iff.mp hv).1
          obtain ⟨t, e⟩ := IntsAre.int_at hi i v (by rw [Array.getElem?_toList]; exact hv)
          exact ⟨ns[i], t, List.getElem?_eq_getElem hin, by rw [e, List.getD_eq_getElem?_getD, List.getElem?_eq_getElem hin]; rfl⟩
        · obtain ⟨g, gg, dd, tk, os⟩ := z
          have e1 : gg = s.gens := hm.gens
          have e2 : dd = s.drawn := hm.drawn
          have e3 : os = s.os := hm.os
          subst e1 e2 e3
          refine wpAny_pure (wpAny_pure ⟨rfl, g, tk, c, rfl, hS, by omega, fun b o e => ?_⟩)
          have hb0 : b < s.heap.objs.size := Heap.lt_size e
          exact hm.heap b o (by rw [sz1]; simp only [List.mem_cons, List.not_mem_nil, or_false, not_or]; exact ⟨Nat.ne_of_lt hb0, Nat.ne_of_lt (Nat.lt_succ_of_lt hb0)⟩) (Heap.get?_push_of_some _ (Heap.get?_push_of_some _ e))
      · cases r2 with
        | error e => exact hr2
        | ok f2 =>
          cases f2 with
          | ret u =>
            obtain ⟨rfl, g, tk, c, rfl, hS, hc, hk⟩ := hr2
            repeat (any_goals (first | assumption | wp_step))
            exact q g tk c hS hc hk
          | _ => exact hr2.elim
    | _ => exact hr.elim
set_option maxHeartbeats 4000000 in
theorem set_tup_ints {l : Addr} {xs : Array Value} (ns : List Int) {Q : Value → Shared → Prop} (hh : A.handled = none) (hl : s.heap.IsTuple l xs) (hi : IntsAre xs.toList ns) (hb : ns.length + 1 < scanBound)
    (q : ∀ (g : Heap) (tk c : Nat), SetR w g s.heap.objs.size (fun j => decide (j ∈ ns)) c → c ≤ ns.length → (∀ b o, s.heap.get? b = some o → g.get? b = some o) → Q (.ref s.heap.objs.size) { s with heap := g, toks := tk }) :
    wpAny (model P w) A (call (.type "set") [.ref l]) Q E s := by
  have len : xs.size = ns.length := by rw [← Array.length_toList]; exact IntsAre.length hi
  obtain ⟨cc, tl, mro⟩ := F.called_set.mro
  have m1 := F.called_set.made
  have m2 := F.called_set.sub
  have m3 := F.called_set.notType
  have m4 := F.called_set.canCreate
  have m5 := F.typeCall_set_1 (.ref l)
  have m6 := F.called_set.init.lookup
  have m7 := F.called_set.init.bind (.ref s.heap.objs.size)
  refine wpAny_call (codeAny_of_tree (wpAny_pure ⟨Code.quiet_builtin _ (by decide +kernel), codeAny_builtin F.entry_type_call ?_⟩))
  rw [Around.under_plain (weight_type_call_type "set" [.ref l] []) rfl]
  repeat (any_goals (first | assumption | wp_step))
  refine codeAny_mono (code_set_led1 (.ref l) (E := E) (Q₁ := fun u z => u = .ref s.heap.objs.size ∧ z = { s with heap := s.heap.push (set0 w) }) ⟨rfl, rfl⟩) fun r z hr => ?_
  cases r with
  | error e => exact hr
  | ok fl =>
    cases fl with
    | ret obj =>
      obtain ⟨rfl, rfl⟩ := hr
      have g0 : (s.heap.push (set0 w)).get? s.heap.objs.size = some (set0 w) := Heap.get?_push_size _ rfl
      have t0 : Shared.TypeIs { s with heap := s.heap.push (set0 w) } (.ref s.heap.objs.size) "set" := ⟨_, g0, rfl⟩
      repeat (any_goals (first | assumption | wp_step))
      let Rs : Value → Shared → Prop := fun r z => r = .none ∧ ∃ g tk c, z = { s with heap := g, toks := tk } ∧ SetR w g s.heap.objs.size (fun j => decide (j ∈ ns)) c ∧ c ≤ ns.length ∧ ∀ b o, s.heap.get? b = some o → g.get? b = some o
      refine codeAny_mono (codeAny_call_builtin (R := wants Rs E) F.called_set.init.plain F.entry_set_init (check_set_init_1 t0 ?_)) fun r2 z2 hr2 => ?_
      · obtain ⟨⟨oc, od, oda, osl⟩, ho, hc, n0, hd⟩ := hl
        simp only at hc hd
        subst hc hd
        have ho1 : (s.heap.push (set0 w)).get? l = some { cls := .type "tuple", dict := od, data := .seq xs n0, slots := osl } := Heap.get?_push_of_some _ ho
        have l1 : (s.heap.push (set0 w)).IsTuple l xs := ⟨_, ho1, rfl, n0, rfl⟩
        have p1 := F.sub_tuple_set
        have p2 := F.sub_tuple_frozenset
        have p3 : (Value.type "tuple" == Value.type "dict") = false := by decide
        unfold Builtin.«set.__init__» noKeywords Builtin.Frozenset.updateFrom
        generalize hit : pyIter = it
        wp_walk
        subst hit
        refine wpAny_pyIter_tuple l1 (wpAny_bind (wpAny_runValue ?_))
        have big : l < s.heap.objs.size := Heap.lt_size ho
        have sz1 : (s.heap.push (set0 w)).objs.size = s.heap.objs.size + 1 := Heap.size_push ..
        have W0 := (Walks.tuple (prog := P) (w := w) (A := A.in1.in1.in1) (by simp [hh]) (s.heap.push (set0 w)).objs.size l (Nat.ne_of_lt (by rw [sz1]; exact Nat.lt_succ_of_lt big)) xs).toS
        have nf : s.heap.objs.size ∉ [(s.heap.push (set0 w)).objs.size, l] := by
          rw [sz1]
          simp only [List.mem_cons, List.not_mem_nil, or_false, not_or]
          exact ⟨Nat.ne_of_lt (Nat.lt_succ_self _), Nat.ne_of_gt big⟩
        refine set_update_ints W0 s.heap.objs.size nf ns len hb (fun i v hv => ?_) (xs.size - 0) 0 _ (by omega) (Nat.zero_le _) ⟨⟨_, Heap.get?_push_size _ rfl, rfl, rfl⟩, l1.push _⟩ ⟨0, Nat.le_refl 0, setR_new_at (Heap.get?_push_of_some _ g0)⟩ fun z c hm hc hS => ?_
        · have hin : i < ns.length := by rw [← len]; exact (Array.getElem?_eq_some_iff.mp hv).1
          obtain ⟨t, e⟩ := IntsAre.int_at hi i v (by rw [Array.getElem?_toList]; exact hv)
          exact ⟨ns[i], t, List.getElem?_eq_getElem hin, by rw [e, List.getD_eq_getElem?_getD, List.getElem?_eq_getElem hin]; rfl⟩
        · obtain ⟨g, gg, dd, tk, os⟩ := z
          have e1 : gg = s.gens := hm.gens
          have e2 : dd = s.drawn := hm.drawn
          have e3 : os = s.os := hm.os
          subst e1 e2 e3
          refine wpAny_pure (wpAny_pure ⟨rfl, g, tk, c, rfl, hS, by omega, fun b o e => ?_⟩)
          have hb0 : b < s.heap.objs.size := Heap.lt_size e
          exact hm.heap b o (by rw [sz1]; simp only [List.mem_cons, List.not_mem_nil, or_false, not_or]; exact ⟨Nat.ne_of_lt hb0, Nat.ne_of_lt (Nat.lt_succ_of_lt hb0)⟩) (Heap.get?_push_of_some _ (Heap.get?_push_of_some _ e))
      · cases r2 with
        | error e => exact hr2
        | ok f2 =>
          cases f2 with
          | ret u =>
            obtain ⟨rfl, g, tk, c, rfl, hS, hc, hk⟩ := hr2
            repeat (any_goals (first | assumption | wp_step))
            exact q g tk c hS hc hk
          | _ => exact hr2.elim
    | _ => exact hr.elim
end
section
variable {X : Cx}
def rSetL (K : PySem.W.Frag) (w : World) : List V → Hp → VK → Prop := fun vs H Q => ∃ (a : Addr) (ns : List Int), vs = [.ref a] ∧ (SqL K H a (ns.map V.int) ∨ SqT K H a (ns.map V.int)) ∧ ns.length + 1 < scanBound ∧
  ∀ (p : Addr) (c : Nat), c ≤ ns.length → H p = none → Q (.ref p) (upd H p (SetO w p (fun j => decide (j ∈ ns)) c))
theorem cr_setL (hc : X.calm = true) : CallR X (.type "set") (rSetL X.K X.w) := by
  intro pins s σ H xs us Q I r h
  obtain ⟨a, ns, rfl, hs, hb, q⟩ := h
  rw [Vals.ref1 r]
  rcases hs with hs | hs
  · obtain ⟨its, rv, pl, hz⟩ := I.list hs
    refine set_list_ints ns (I.ok.hd hc) pl.isList (by rw [List.toList_toArray]; exact ints_of_vals rv) hb fun g tk c hS hc2 hk => ?_
    exact ⟨.ref _, _, I.laid (t' := tk) hk (Nat.le_refl _) (setO_new hS), rfl, q _ c hc2 (I.hok.fresh (Nat.le_refl _))⟩
  · obtain ⟨its, rv, pl, hz⟩ := I.tuple hs
    refine set_tup_ints ns (I.ok.hd hc) pl (by rw [List.toList_toArray]; exact ints_of_vals rv) hb fun g tk c hS hc2 hk => ?_
    exact ⟨.ref _, _, I.laid (t' := tk) hk (Nat.le_refl _) (setO_new hS), rfl, q _ c hc2 (I.hok.fresh (Nat.le_refl _))⟩
/-- sorted(set(a list of ints)), the two calls as one -/
@[simp] def nSS (m : EM D) : EM (List D) := fun ρ g Q E => m ρ g (fun x g1 => match x with
  | .lst ds => (match intsOf ds with | some ns => ns.length < 64 ∧ ∀ ms : List Int, ms.Pairwise (· < ·) → (∀ k, k ∈ ms ↔ k ∈ ns) → Q (ms.map .int) g1 | none => False)
  | .tup ds => (match intsOf ds with | some ns => ns.length < 64 ∧ ∀ ms : List Int, ms.Pairwise (· < ·) → (∀ k, k ∈ ms ↔ k ∈ ns) → Q (ms.map .int) g1 | none => False)
  | _ => False) E
theorem en_sortset {e : Expr} {m : EM D} {p p2 pos pos2 : Pos} (hc : X.calm = true) (hg : Gl X "sorted") (hm : X.mg "sorted" = none) (hg2 : Gl X "set") (hm2 : X.mg "set" = none) (ha : EV X e m)
    (e1 : starEach [e] X.env = (false, eval e X.env) :: starEach [] X.env := by rfl) (e2 : (backTo pos2 (starEach [] X.env)).any (·.1) = false := by rfl)
    (e3 : starEach [Expr.Call (.Name "set" p2) [e] [] pos2] X.env = (false, eval (Expr.Call (.Name "set" p2) [e] [] pos2) X.env) :: starEach [] X.env := by rfl) (e4 : (backTo pos (starEach [] X.env)).any (·.1) = false := by rfl) :
    EN X (.Call (.Name "sorted" p) [.Call (.Name "set" p2) [e] [] pos2] [] pos) (nSS m) := by
  intro B W hB L
  refine pe_mono (pe_callB (cr_sortedSet hc) hg hm PyProof.Rows.boot_sorted (pa_cons (pe_callTy (cr_setL hc) hg2 hm2 (by decide +kernel) (pa_cons (ha B W hB L) pa_nil e1) (by decide) (by decide) e1 e2) pa_nil e3) (by decide) (by decide) e3 e4) ?_
  rintro σ H Q ⟨F, ρ, g, QD, R, w, q⟩
  refine ⟨F, ρ, g, _, R, w, ?_⟩
  intro v1 H1 F1 g1 d1 k1 R1 r1 w1
  cases d1 with
  | lst ds =>
    cases hb : intsOf ds with
    | none => simp only [hb] at w1
    | some ns =>
      simp only [hb] at w1
      rw [intsOf_eq hb] at r1
      cases r1 with
      | lst hs hr =>
        obtain ⟨h64, w1⟩ := w1
        rw [← hB]
        have sb : (64 : Nat) < scanBound := by decide
        refine ⟨_, ns, rfl, by rw [← hr.ints]; exact .inl (R1.fh.seq hs), by omega, fun p c hc2 hp => ?_⟩
        refine ⟨p, _, c, rfl, upd_same, by omega, fun ms p3 h1 h2 h3 hp3 => ?_⟩
        have G1 := Gro.lay0 (o := SetO X.w p (fun j => decide (j ∈ ns)) c) R1.fh hp
        have R2 := R1.gro G1
        have G2 := Gro.lay0 (o := .lst (ms.map V.int)) R2.fh hp3
        have k3 := (k1.trans G1.ste).trans G2.ste
        exact q p3 _ _ F1 g1 _ k3 (R2.gro G2) ((k1.trans G1.ste).none hp3) upd_same (R2.fh.free hp3) (R2.fresh_g hp3) (R2.fresh_0 hp3) (R2.fresh_s hp3) (RepL.of_ints ms) (w1 ms h1 fun k => by rw [h2 k]; simp)
  | tup ds =>
    cases hb : intsOf ds with
    | none => simp only [hb] at w1
    | some ns =>
      simp only [hb] at w1
      rw [intsOf_eq hb] at r1
      cases r1 with
      | tup hs hr =>
        obtain ⟨h64, w1⟩ := w1
        rw [← hB]
        have sb : (64 : Nat) < scanBound := by decide
        refine ⟨_, ns, rfl, by rw [← hr.ints]; exact .inr (same_sqT R1.fh hs.sqT), by omega, fun p c hc2 hp => ?_⟩
        refine ⟨p, _, c, rfl, upd_same, by omega, fun ms p3 h1 h2 h3 hp3 => ?_⟩
        have G1 := Gro.lay0 (o := SetO X.w p (fun j => decide (j ∈ ns)) c) R1.fh hp
        have R2 := R1.gro G1
        have G2 := Gro.lay0 (o := .lst (ms.map V.int)) R2.fh hp3
        have k3 := (k1.trans G1.ste).trans G2.ste
        exact q p3 _ _ F1 g1 _ k3 (R2.gro G2) ((k1.trans G1.ste).none hp3) upd_same (R2.fh.free hp3) (R2.fresh_g hp3) (R2.fresh_0 hp3) (R2.fresh_s hp3) (RepL.of_ints ms) (w1 ms h1 fun k => by rw [h2 k]; simp)
  | _ => exact w1.elim
end
end DL

set_option Elab.async false
set_option linter.all false
set_option maxRecDepth 100000
namespace DL
open PySem PySem.Spec PyProof.Rows L2
/-! ### list(d.values()), list(d.items()) -/
theorem kv_vals {kvs : List (Key × V)} {vs : List (Key × Value)} (h : KV kvs vs) : Vals (kvs.map (·.2)) (vs.map (·.2)) := by
  unfold KV at h
  induction h with
  | nil => exact .nil
  | cons a _ ih => exact .cons a.2 ih
section
variable {X : Cx} {e : Expr} {te : TE} {m : EM D} {p apos cpos pos : Pos}
def tLV (te : TE) : TE := fun σ H Q => te σ H fun x H1 => ∃ d o kvs, x = .ref d ∧ H1 d = some (.frz o (.dK kvs)) ∧ ∀ q, H1 q = none → Q (.ref q) (upd H1 q (.lst (kvs.map (·.2))))
theorem pe_lv (hc : X.calm = true) (he : PE X e te) (hg : Gl X "list") (hm : X.mg "list" = none) (hbase : attributeBase e "values" X.env (eval e X.env) = eval e X.env := by rfl) (hline : (apos.endLine == cpos.line) = true := by rfl)
    (hs : starEach [.Call (.Attribute e "values" apos) [] [] cpos] X.env = (false, eval (.Call (.Attribute e "values" apos) [] [] cpos) X.env) :: starEach [] X.env := by rfl) :
    PE X (.Call (.Name "list" p) [.Call (.Attribute e "values" apos) [] [] cpos] [] pos) (tLV te) := by
  refine ⟨fun pins s σ H Q I hq => wpAny_Call_Name_kw (ld_blt I hg hm PyProof.Rows.boot_list (PyProof.Rows.callWith_type1 ?_ hs rfl))⟩
  rw [hs]
  refine Calls.spliced_cons (wpAny_Call_method (T := "dict") (id := "dict.values") hbase rfl hline F.plainAttrs_dict F.slot_dict_values F.type_dict_values (thn (he.run pins s σ H _ I hq) fun u z ⟨x, H1, I1, rx, d, o, kvs, ex, hd, q⟩ => ?_))
  subst ex
  obtain rfl : u = Value.ref d := rx
  obtain ⟨hz, hs0, vs, kv, hdo⟩ := dk_rd I1.hok (.inr ⟨o, hd⟩)
  obtain ⟨ep, hat⟩ := hdo.dictAt
  have lk : kvs.length = vs.length := Paired.length kv
  refine ⟨hdo.typeIs, hdo.mapOf.noDict, method_meetsIn F.slot_dict_values F.entry_dict_values rfl (PySem.evalArgs_none ⟨rfl, hdo.typeIs, F.args_dict_values_1 _, _, meets_dict_values (mixKind X.prog X.w) d hs0, ⟨vs, hdo⟩, Calls.spliced_nil ?_⟩)⟩
  refine PySem.W.kdl_call (PySem.W.kdl_values (knd := mixKind X.prog X.w) (kvs := vs) (ep := ep)) (I1.ok.hd hc) ⟨⟨_, Heap.get?_push_size _ rfl, rfl, rfl⟩, hat.push _⟩ (by omega) fun h' tk acc c hk hS hacc => ?_
  have ea : acc.toList = vs.map (·.2) := PySem.W.kdl_vals_eq _ (by rw [Array.length_toList]; exact hacc.1) fun j v hv => hacc.2 j v (by rw [← Array.getElem?_toList]; exact hv)
  have I2 : Inv X pins σ H1 { z with heap := z.heap.push { cls := .type "dict_values", data := .fields #[.ref d] } } := I1.kept (t' := z.toks) fun b ob y => Heap.get?_push_of_some _ y
  have rv : Vals (kvs.map (·.2)) acc.toList := by rw [ea]; exact kv_vals kv
  exact ⟨.ref _, _, I2.laid (t' := tk) hk (Nat.le_refl _) (show ObjOk X.prog X.w _ h' _ (.lst (kvs.map (·.2))) from ⟨by rw [List.length_map]; exact hz, acc.toList, c, rv, by simpa using hS⟩), rfl, q _ (I2.hok.fresh (Nat.le_refl _))⟩
@[simp] def nVals (m : EM D) : EM (List D) := fun ρ g Q E => m ρ g (fun d g1 => match d with | .dic _ ds => Q ds g1 | _ => False) E
theorem en_lvals (hc : X.calm = true) (he : EV X e m) (hg : Gl X "list") (hm : X.mg "list" = none) (hbase : attributeBase e "values" X.env (eval e X.env) = eval e X.env := by rfl) (hline : (apos.endLine == cpos.line) = true := by rfl)
    (hs : starEach [.Call (.Attribute e "values" apos) [] [] cpos] X.env = (false, eval (.Call (.Attribute e "values" apos) [] [] cpos) X.env) :: starEach [] X.env := by rfl) :
    EN X (.Call (.Name "list" p) [.Call (.Attribute e "values" apos) [] [] cpos] [] pos) (nVals m) := by
  intro B W hB L
  refine pe_mono (pe_lv hc (he B W hB L) hg hm hbase hline hs) ?_
  rintro σ H Q ⟨F, ρ, g, QD, R, w, q⟩
  refine ⟨F, ρ, g, _, R, w, ?_⟩
  intro v1 H1 F1 g1 d1 k1 R1 r1 w1
  cases d1 with
  | dic ks ds =>
    obtain ⟨a, od, kvs, rfl, ea, hk, hn, rk, rv⟩ := r1.dic_inv
    refine ⟨a, od, kvs, rfl, R1.fh _ _ ea, fun p hp => ?_⟩
    have G1 := Gro.lay0 (o := .lst (kvs.map (·.2))) R1.fh hp
    exact q p _ _ F1 g1 _ (k1.trans G1.ste) (R1.gro G1) (k1.none hp) upd_same (R1.fh.free hp) (R1.fresh_g hp) (R1.fresh_0 hp) (R1.fresh_s hp) rv w1
  | _ => exact w1.elim
/-! list(d.items()) -/
def tLI (te : TE) : TE := fun σ H Q => te σ H fun x H1 => ∃ d o kvs, x = .ref d ∧ H1 d = some (.frz o (.dK kvs)) ∧ ∀ (H' : Hp) (S : Addr) (as : List Addr), (∀ b o, H1 b = some o → H' b = some o) → H1 S = none → (∀ t ∈ as, H1 t = none) → S ∉ as → H' S = some (.lst (as.map V.ref)) →
  Paired (fun (t : Addr) (q : Key × V) => H' t = some (.tup [kV q.1, q.2])) as kvs → Q (.ref S) H'
theorem pe_li (hc : X.calm = true) (he : PE X e te) (hg : Gl X "list") (hm : X.mg "list" = none) (hbase : attributeBase e "items" X.env (eval e X.env) = eval e X.env := by rfl) (hline : (apos.endLine == cpos.line) = true := by rfl)
    (hs : starEach [.Call (.Attribute e "items" apos) [] [] cpos] X.env = (false, eval (.Call (.Attribute e "items" apos) [] [] cpos) X.env) :: starEach [] X.env := by rfl) :
    PE X (.Call (.Name "list" p) [.Call (.Attribute e "items" apos) [] [] cpos] [] pos) (tLI te) := by
  refine ⟨fun pins s σ H Q I hq => wpAny_Call_Name_kw (ld_blt I hg hm PyProof.Rows.boot_list (PyProof.Rows.callWith_type1 ?_ hs rfl))⟩
  rw [hs]
  refine Calls.spliced_cons (wpAny_Call_method (T := "dict") (id := "dict.items") hbase rfl hline F.plainAttrs_dict F.slot_dict_items F.type_dict_items (thn (he.run pins s σ H _ I hq) fun u z ⟨x, H1, I1, rx, d, o, kvs, ex, hd, q⟩ => ?_))
  subst ex
  obtain rfl : u = Value.ref d := rx
  obtain ⟨hz, hs0, vs, kv, hdo⟩ := dk_rd I1.hok (.inr ⟨o, hd⟩)
  obtain ⟨ep, hat⟩ := hdo.dictAt
  have lk : kvs.length = vs.length := Paired.length kv
  have I2 : Inv X pins σ H1 { z with heap := z.heap.push { cls := .type "dict_items", data := .fields #[.ref d] } } := I1.kept (t' := z.toks) fun b ob y => Heap.get?_push_of_some _ y
  refine ⟨hdo.typeIs, hdo.mapOf.noDict, method_meetsIn F.slot_dict_items F.entry_dict_items rfl (PySem.evalArgs_none ⟨rfl, hdo.typeIs, F.args_dict_items_1 _, _, meets_dict_items (mixKind X.prog X.w) d hs0, ⟨vs, hdo⟩, Calls.spliced_nil ?_⟩)⟩
  refine PySem.W.kdx_call (knd := mixKind X.prog X.w) (kvs := vs) (ep := ep) (I1.ok.hd hc) ⟨_, Heap.get?_push_size _ rfl, rfl, rfl⟩ (hat.push _) (by omega) fun h' tk acc c as hk hS hl hG hacc => ?_
  obtain ⟨H', b1, b2, b3, b4, b5, b6, J⟩ := LiI.items_laid (tk := tk) I2 hz kv hk hS hl hG hacc
  exact ⟨.ref _, H', J, rfl, q H' _ as b1 b2 b3 b4 b5 b6⟩
@[simp] def nItems (m : EM D) : EM (List D) := fun ρ g Q E => m ρ g (fun d g1 => match d with | .dic ks ds => Q ((ks.zip ds).map fun kv => .ptp [ofKey kv.1, kv.2]) g1 | _ => False) E
theorem items_rep {K : PySem.W.Frag} {F F' H' : Hp} (ff : Same F F') : ∀ {as : List Addr} {kvs : List (Key × V)} {kds : List (Key × D)}, Paired (fun (t : Addr) (q : Key × V) => H' t = some (.tup [kV q.1, q.2])) as kvs → (∀ t ∈ as, F' t = H' t) → RepK K F kvs kds →
    RepL K F' (as.map V.ref) (kds.map fun kv => .ptp [ofKey kv.1, kv.2])
  | _, _, _, .nil, _, .nil => .nil
  | _, _, _, .cons (a := t) h1 h2, hF, .cons r1 r2 =>
    .cons (.ptp (.inl (.inl (by rw [hF t (List.mem_cons_self ..)]; exact h1))) (.cons (ofKey_rep _) (.cons (r1.mono ff) .nil))) (items_rep ff h2 (fun t ht => hF t (List.mem_cons_of_mem _ ht)) r2)
open Classical in
theorem en_litems (hc : X.calm = true) (he : EV X e m) (hg : Gl X "list") (hm : X.mg "list" = none) (hbase : attributeBase e "items" X.env (eval e X.env) = eval e X.env := by rfl) (hline : (apos.endLine == cpos.line) = true := by rfl)
    (hs : starEach [.Call (.Attribute e "items" apos) [] [] cpos] X.env = (false, eval (.Call (.Attribute e "items" apos) [] [] cpos) X.env) :: starEach [] X.env := by rfl) :
    EN X (.Call (.Name "list" p) [.Call (.Attribute e "items" apos) [] [] cpos] [] pos) (nItems m) := by
  intro B W hB L
  refine pe_mono (pe_li hc (he B W hB L) hg hm hbase hline hs) ?_
  rintro σ H Q ⟨F, ρ, g, QD, R, w, q⟩
  refine ⟨F, ρ, g, _, R, w, ?_⟩
  intro v1 H1 F1 g1 d1 k1 R1 r1 w1
  cases d1 with
  | dic ks ds =>
    obtain ⟨a, od, kvs, rfl, ea, hk, hn, rk, rv⟩ := r1.dic_inv
    refine ⟨a, od, kvs, rfl, R1.fh _ _ ea, fun H' S as b1 b2 b3 b4 b5 b6 => ?_⟩
    let F' : Hp := fun b => if b ∈ as then H' b else F1 b
    have ff : Same F1 F' := fun b u e => by
      have hb : b ∉ as := fun z => by rw [R1.fh.free (b3 b z)] at e; cases e
      show (if b ∈ as then H' b else F1 b) = some u
      rw [if_neg hb]; exact e
    have G1 : Gro F1 H1 F' H' := ⟨ff, b1, fun b u e => by
      by_cases hb : b ∈ as
      · have e : (if b ∈ as then H' b else F1 b) = some u := e
        rw [if_pos hb] at e; exact e
      · have e : (if b ∈ as then H' b else F1 b) = some u := e
        rw [if_neg hb] at e; exact b1 b u (R1.fh b u e), fun b u e => by
      by_cases hb : b ∈ as
      · exact .inr (b3 b hb)
      · have e : (if b ∈ as then H' b else F1 b) = some u := e
        rw [if_neg hb] at e; exact .inl e⟩
    have fS : F' S = none := by
      show (if S ∈ as then H' S else F1 S) = none
      rw [if_neg b4]; exact R1.fh.free b2
    exact q S _ H' F' g1 _ (k1.trans G1.ste) (R1.gro G1) (k1.none b2) b5 fS (R1.fresh_g b2) (R1.fresh_0 b2) (R1.fresh_s b2) (items_rep ff b6 (fun t ht => if_pos ht) rk) w1
  | _ => exact w1.elim
end
end DL

set_option Elab.async false
set_option linter.all false
set_option maxRecDepth 100000
namespace DL
open PySem PySem.Spec PyProof.Rows L2
/-! ### enumerate of a list or a tuple -/
theorem enum_new1 {v : Value} {o : Obj} {H : Heap → Prop} (B : Begins v o H) :
    Meets (Builtin.«enumerate.__new__» ⟨[.type "enumerate", v], []⟩) (fun _ R s => H s.heap ∧
      R (.ok (.ret (.ref (s.heap.push o).objs.size))) { s with heap := (s.heap.push o).push { cls := .type "enumerate", data := .fields #[.none, .bool false, .ref s.heap.objs.size, rawInt 0, .none, .none] } }) :=
  .of_wp fun prog w A R s h => by
    obtain ⟨hp, g, d, tk, os⟩ := s
    obtain ⟨h1, h⟩ := h
    have p1 := sub_enumerate
    have q1 : ∀ {A' : Around} {E : Value → Shared → Prop} {Q : Value → Shared → Prop}, Q (.ref hp.objs.size) ⟨hp.push o, g, d, tk, os⟩ → wpAny (model prog w) A' (pyIter v) Q E ⟨hp, g, d, tk, os⟩ := fun q => B.iter prog w _ _ _ _ h1 q
    wp_walk using q1
    refine wpAny_stack_any fun st => wpAny_pure ?_
    split
    · rename_i c _ _ _ _ _
      cases hcc : (c == Value.type "enumerate") <;> (simp only [hcc]; wp_walk using q1; exact ⟨_, rfl, h⟩)
    · wp_walk using q1
      exact ⟨_, rfl, h⟩
section
variable {prog : Program} {w : World} {A : Around} {E : Value → Shared → Prop} {s : Shared}
theorem enum_made {v : Value} {o : Obj} {H : Heap → Prop} {Q : Value → Shared → Prop} (B : Begins v o H) (h1 : H s.heap)
    (h : ∀ h', IsEnum h' (s.heap.objs.size + 1) s.heap.objs.size 0 .none → h'.get? s.heap.objs.size = some o →
      (∀ b u, s.heap.get? b = some u → h'.get? b = some u) → Q (.ref (s.heap.objs.size + 1)) { s with heap := h' }) :
    wpAny (model prog w) A (call (.type "enumerate") [v]) Q E s := by
  refine callType_new F.called_enumerate (by decide) (F.typeCall_enumerate_1 _) (F.newCall_enumerate_1 _) (fun obj => F.args_object_init_2 obj _) F.entry_enumerate_new (enum_new1 B) ⟨h1, ?_⟩
  have hz : (s.heap.push o).objs.size = s.heap.objs.size + 1 := Heap.size_push ..
  have he : IsEnum ((s.heap.push o).push { cls := .type "enumerate", data := .fields #[.none, .bool false, .ref s.heap.objs.size, rawInt 0, .none, .none] }) (s.heap.objs.size + 1) s.heap.objs.size 0 .none := by
    rw [← hz]; exact Heap.get?_push_size _ rfl
  show _ ∧ _
  rw [hz]
  exact ⟨⟨_, he, rfl⟩, h _ he (Heap.get?_push_of_some _ (Heap.get?_push_size _ B.free)) fun b u x => Heap.get?_push_of_some _ (Heap.get?_push_of_some _ x)⟩
end
/-- the tuple at a, each item in a new pair with its place -/
def ItT (K : PySem.W.Frag) (a : Addr) : It :=
  ⟨fun i H => ∃ (xs : List V) (x : V), SqT K H a xs ∧ xs[i]? = some x, fun i H v H' => ∃ T x, v = .ref T ∧ H T = none ∧ H' = upd H T (.tup [.int (i : Nat), x]) ∧ ∀ xs, SqT K H a xs → xs[i]? = some x, fun i H => ∃ xs : List V, SqT K H a xs ∧ xs.length = i⟩
theorem turn_enumT {P : Program} {w : World} {K : PySem.W.Frag} {elts : List Expr} {kk : Nat} {tpos : Pos} (a e it : Addr) :
    Turn P w K (.Tuple elts kk tpos) (ItT K a) [e, it] e (fun i h => (∃ old, IsEnum h e it ((i : Nat) : Int) old) ∧ h.IsTupleIter it a i ∧ e ≠ it ∧ a ≠ it ∧ a ≠ e) where
  mem := by simp
  obj := fun i h st b hb => by
    obtain ⟨⟨old, he⟩, ⟨o, ho, hc, hd⟩, _⟩ := st
    have e' : b = e ∨ b = it := by simpa using hb
    rcases e' with z | z
    · subst z; exact ⟨_, he, fun v q => nomatch q⟩
    · subst z; exact ⟨o, ho, fun v q => by rw [hd] at q; cases q⟩
  keep := fun i h h' st k => let ⟨⟨old, he⟩, hi, hne⟩ := st; ⟨⟨old, k e (by simp) _ he⟩, hi.at fun o q => k it (by simp) o q, hne⟩
  item := by
    intro X hP hw hK hc i pins s σ H E I hf st hg
    subst hP hw hK
    obtain ⟨⟨old, he⟩, hit, hne, hai, hae⟩ := st
    obtain ⟨xs, x, hq, hx⟩ := hg
    obtain ⟨its, rv, p, hz⟩ := I.tuple hq
    obtain ⟨u, hu, ru⟩ := rv.get hx
    have hi : i < its.toArray.size := by
      rw [List.size_toArray]
      exact (List.getElem?_eq_some_iff.mp hu).1
    have DD := Draws.tuple (prog := X.prog) (w := X.w) (A := X.A.in1) (by simp [I.ok.hd hc]) it a hai its.toArray
    refine wpAny_pyNext_enum_itemC DD he ⟨hit, p⟩ hi hne (by simp [hne, Ne.symm hae]) fun y h' tk hy ho hst hT hsz hk => ?_
    have ey : y = u := by
      have : its[i]? = some y := by simpa using hy
      rw [hu] at this
      exact (Option.some.inj this).symm
    subst ey
    have hel : e < s.heap.objs.size := Heap.lt_size he
    have hil : it < s.heap.objs.size := by obtain ⟨_, q, _⟩ := hit; exact Heap.lt_size q
    refine ⟨_, rfl, wpAny_letOwnedTupleGo_enum (s := { s with heap := h', toks := tk + 1 }) ho fun h2 he2 sb => ?_⟩
    have hT2 : h2.get? s.heap.objs.size = some { cls := .type "tuple", data := .seq #[.int i tk, y] } := (sb.2 _ (Nat.ne_of_gt hel)).trans hT
    have new : ObjOk X.prog X.w (upd H s.heap.objs.size (.tup [.int (i : Nat), x])) h2 s.heap.objs.size (.tup [.int (i : Nat), x]) :=
      ⟨by show 2 ≤ sizeLine; decide, [.int i tk, y], .cons ⟨_, rfl⟩ (.cons ru .nil), ⟨_, hT2, rfl, _, rfl⟩⟩
    have I1 : Inv X pins σ (upd H s.heap.objs.size (.tup [.int (i : Nat), x])) { s with heap := h2, toks := tk + 1 } :=
      I.turnedNew (ch := [e, it]) (fun b ob hb q => (sb.2 b (fun z => hb (by simp [z]))).trans (hk b ob (fun z => hb (by simp [z])) (fun z => hb (by simp [z])) q)) hf (Nat.le_refl _) new
    refine ⟨.ref s.heap.objs.size, _, I1, rfl, ⟨_, x, rfl, I.hok.fresh (Nat.le_refl _), rfl, fun ys hy => ?_⟩, ⟨⟨y, ?_⟩, hst.1.at fun o q => (sb.2 it (Ne.symm hne)).trans q, hne, hai, hae⟩, fun b hb => ?_⟩
    · rw [I.tuple_inj hy hq]; exact hx
    · have e1 : ((i + 1 : Nat) : Int) = (i : Int) + 1 := by omega
      rw [e1]; exact he2
    · have hb2 : b < s.heap.objs.size := by
        have z : b = e ∨ b = it := by simpa using hb
        rcases z with rfl | rfl
        · exact hel
        · exact hil
      rw [upd_ne (Nat.ne_of_lt hb2)]
      exact (hf b hb).1
  done := by
    intro X hP hw hK hc i pins s σ H E I hf st hg
    subst hP hw hK
    obtain ⟨⟨old, he⟩, hit, hne, hai, hae⟩ := st
    obtain ⟨xs, hq, hx⟩ := hg
    obtain ⟨its, rv, p, hz⟩ := I.tuple hq
    obtain ⟨f0, f1, f2, f3, f4, f5⟩ := hf it (by simp)
    have ei : i = its.toArray.size := by rw [List.size_toArray, ← rv.length]; exact hx.symm
    rw [ei] at he hit
    have DD := Draws.tuple (prog := X.prog) (w := X.w) (A := X.A.in1) (by simp [I.ok.hd hc]) it a hai its.toArray
    exact wpAny_pyNext_enum_endD DD he ⟨hit, p⟩ fun h' eb => ⟨rfl, I.turned (t' := s.toks) (fun b o hb q => eb b o hb q) f0 f1 f3 f4 f5⟩
  self := fun A i s Q E st h => let ⟨⟨_, he⟩, _⟩ := st; wpAny_pyIter_enum he h
end DL

set_option Elab.async false
set_option linter.all false
set_option maxRecDepth 100000
namespace DL
open PySem PySem.Spec PyProof.Rows L2
def iEnumT (K : PySem.W.Frag) (ta : TA) : TI := fun σ H R => ta σ H fun vs H1 => ∃ a xs, vs = [.ref a] ∧ SqT K H1 a xs ∧ R (ItT K a) H1
theorem pi_enumT {X : Cx} {e : Expr} {ta : TA} {p pos tpos : Pos} {elts : List Expr} {kk : Nat} (hg : Gl X "enumerate") (hm : X.mg "enumerate" = none) (ha : PA X [e] ta) (hs : starEach [e] X.env = [(false, eval e X.env)] := by rfl) :
    PI X (.Tuple elts kk tpos) (.Call (.Name "enumerate" p) [e] [] pos) (iEnumT X.K ta) := by
  refine ⟨fun pins s σ H R I h => ?_⟩
  refine Call_ (ld_blt I hg hm boot_enumerate (PyProof.Rows.callWith_type1 (thn (ha.run pos pins s σ H _ I h) fun us s1 ⟨vs, H1, I1, r1, a, xs, ex, hq, q⟩ => ?_) hs rfl))
  subst ex
  rw [Vals.ref1 r1]
  obtain ⟨its, rv, p', hz⟩ := I1.tuple hq
  have big : a < s1.heap.objs.size := by obtain ⟨o, ho, _⟩ := p'; exact Heap.lt_size ho
  refine enum_made (begins_tuple a its.toArray) p' fun h' he hit hk => wpAny_pyIter_enum he ?_
  have I2 : Inv X pins σ H1 { s1 with heap := h' } := I1.kept (t' := s1.toks) hk
  refine ⟨s1.heap.objs.size + 1, [s1.heap.objs.size + 1, s1.heap.objs.size], _, _, H1, rfl, I2, turn_enumT a (s1.heap.objs.size + 1) s1.heap.objs.size, ⟨⟨.none, he⟩, ⟨_, hit, rfl, rfl⟩, Nat.succ_ne_self _, Nat.ne_of_lt big, Nat.ne_of_lt (Nat.lt_succ_of_lt big)⟩, fun b hb => ?_, q⟩
  have hle : s1.heap.objs.size ≤ b := by
    have z : b = s1.heap.objs.size + 1 ∨ b = s1.heap.objs.size := by simpa using hb
    rcases z with rfl | rfl
    · exact Nat.le_succ _
    · exact Nat.le_refl _
  exact I1.fpOk hle (I1.hok.fresh hle)
/-- the pairs of enumerate -/
def enumL : Nat → List D → List D
  | _, [] => []
  | k, d :: ds => .ptp [.int k, d] :: enumL (k + 1) ds
theorem enumL_length : ∀ (k : Nat) (ds : List D), (enumL k ds).length = ds.length
  | _, [] => rfl
  | k, d :: ds => by rw [enumL, List.length_cons, enumL_length (k + 1) ds, List.length_cons]
theorem enumL_get : ∀ (ds : List D) (k i : Nat) (d : D), ds[i]? = some d → (enumL k ds)[i]? = some (.ptp [.int ((k + i : Nat) : Int), d])
  | [], _, _, _, h => by simp at h
  | x :: ds, k, 0, d, h => by simp at h; subst h; rfl
  | x :: ds, k, i + 1, d, h => by
    rw [enumL, List.getElem?_cons_succ, enumL_get ds (k + 1) i d (by simpa using h)]
    rw [show k + 1 + i = k + (i + 1) by omega]
@[simp] def iEnumD (m : EM (List D)) : EM (List D) := fun ρ g Q E => m ρ g (fun xs g1 => match xs with | [.tup ds] => Q (enumL 0 ds) g1 | _ => False) E
theorem ei_enumT {X : Cx} {e : Expr} {ms : EM (List D)} {p pos tpos : Pos} {elts : List Expr} {kk : Nat} (hg : Gl X "enumerate") (hm : X.mg "enumerate" = none) (ha : EVs X [e] ms) (hs : starEach [e] X.env = [(false, eval e X.env)] := by rfl) :
    EI X (.Tuple elts kk tpos) (.Call (.Name "enumerate" p) [e] [] pos) (iEnumD ms) := by
  intro B W hB L
  refine pi_mono (pi_enumT hg hm (ha B W hB L) hs) ?_
  rintro σ H Q ⟨F, ρ, g, QD, R, w, q⟩
  refine ⟨F, ρ, g, _, R, w, ?_⟩
  intro vs H1 F1 g1 ds k1 R1 r1 w1
  split at w1
  · rename_i es
    obtain ⟨v, rfl, r⟩ := r1.one_inv
    cases r with
    | @tup a us _ hs hr =>
      have hq : ∀ {H : Hp}, Same F1 H → SqT X.K H a us := fun z => by rw [← hB]; exact same_sqT z hs.sqT
      refine ⟨a, us, rfl, hq R1.fh, q _ H1 F1 g1 _ k1 R1 ⟨fun i H h z => ?_, fun H z => ⟨us, hq z, by rw [enumL_length, hr.length]⟩, fun i H F2 x H' h z z2 y => ?_⟩ w1⟩
      · rw [enumL_length, ← hr.length] at h
        exact ⟨us, us[i], hq z, List.getElem?_eq_getElem h⟩
      · obtain ⟨T, u, rfl, hT, rfl, hu⟩ := y
        obtain ⟨d, hd, rd⟩ := hr.getV (hu us (hq (z.trans z2)))
        have G1 := Gro.lay (o := .tup [.int (i : Nat), u]) z2 hT
        refine ⟨_, _, enumL_get es 0 i d hd, G1, ?_⟩
        rw [Nat.zero_add]
        exact .ptp (.inl (.inl upd_same)) (.cons (.int _) (.cons (rd.mono (z.trans G1.ff)) .nil))
  · exact w1.elim
end DL

set_option Elab.async false
set_option linter.all false
set_option maxRecDepth 100000
namespace DL
open PySem PySem.Spec PyProof.Rows L2
/-! ### text * number -/
def strRep (x : Str) (n : Nat) : Str := ⟨((List.replicate n x.cps.toList).flatten).toArray⟩
theorem strRep_size (x : Str) (n : Nat) : (strRep x n).length = n * x.length := by
  show (List.toArray _).size = n * x.cps.size
  rw [List.size_toArray, List.length_flatten, List.map_replicate, List.sum_replicate_nat, Array.length_toList]
theorem fold_rep {α : Type} (l : List α) : ∀ (k : Nat) (acc : List α), (List.replicate k l.toArray).foldl (fun a b => a ++ b) acc.toArray = (acc ++ (List.replicate k l).flatten).toArray
  | 0, acc => by simp
  | k + 1, acc => by
    have ih := fold_rep l k (acc ++ l)
    have e : acc.toArray ++ l.toArray = (acc ++ l).toArray := by simp
    rw [List.replicate_succ, List.foldl_cons, e, ih, List.replicate_succ, List.flatten_cons, List.append_assoc]
@[simp] def mulD (x y : D) : Option D := match x, y with
  | .int i, .int j => if mulOk i j then some (.int (i * j)) else none
  | .str z, .int n => if 2 ≤ n ∧ n ≤ 100000 ∧ z.length ≠ 0 ∧ z.length * n.toNat ≤ sizeLine then some (.str (strRep z n.toNat)) else none
  | .tup xs, .int n => if (2 ≤ n ∧ n ≤ 1000) ∧ xs.isEmpty = false ∧ xs.length ≤ 1000 then some (.ptp (List.replicate n.toNat xs).flatten) else none
  | _, _ => none
theorem RepL.rep {K : PySem.W.Frag} {F : Hp} {vs : List V} {ds : List D} (h : RepL K F vs ds) : ∀ n : Nat, RepL K F (List.replicate n vs).flatten (List.replicate n ds).flatten
  | 0 => .nil
  | n + 1 => by
    rw [List.replicate_succ, List.replicate_succ, List.flatten_cons, List.flatten_cons]
    exact h.append (RepL.rep h n)
section
variable {X : Cx}
theorem os_mulD : OS2 X (binaryOp .Mult) mulD := by
  intro pins s σ H F x y v u dx dy dz Q I hF rx ry hx hy hf q
  unfold mulD at hf
  split at hf
  · exact os_mul pins s σ H F x y v u _ _ dz Q I hF rx ry hx hy hf q
  · split at hf
    · rename_i z n hc
      cases hf
      obtain ⟨h1, h2, h3, h4⟩ := hc
      cases hx.str_inv
      cases hy.int_inv
      obtain ⟨t, rfl⟩ := rx
      obtain ⟨t2, rfl⟩ := ry
      have ne1 : (n == 1 || z.length == 0) = false := by
        rw [Bool.or_eq_false_iff]
        exact ⟨by simp; omega, by simp; omega⟩
      refine PySem.P.mul_str ?_ (fun _ _ => ?_) (fun _ _ => ?_) ?_
      · rw [decide_eq_false (by omega), decide_eq_false (by omega)]; rfl
      · have e1 : (z.length : Int) ≤ sizeLine := by
          have : z.length * 1 ≤ z.length * n.toNat := Nat.mul_le_mul_left _ (by omega)
          omega
        have e2 : (100000 : Int) * 16777216 ≤ 2 ^ 63 - 1 := by decide
        have e3 : (sizeLine : Int) = 16777216 := by decide
        have e4 : (16777216 : Int) ≤ (2 ^ 63 - 1) / n := by
          rw [Int.le_ediv_iff_mul_le (by omega)]
          omega
        omega
      · have : ¬ Builtin.Str.tooLong (z.length * n.toNat) = true := by
          unfold Builtin.Str.tooLong
          simp
          omega
        simpa using this
      · rw [if_neg (by omega), if_neg (by rw [ne1]; exact Bool.false_ne_true)]
        have e : (⟨(List.replicate n.toNat z.cps).foldl (· ++ ·) #[]⟩ : Str) = strRep z n.toNat := by
          have := fold_rep z.cps.toList n.toNat []
          rw [List.nil_append] at this
          unfold strRep
          rw [← this]
        rw [e]
        refine ⟨?_, .str (strRep z n.toNat), H, I.tok _, ⟨_, rfl⟩, q _ F H (Gro.refl hF) (.str _)⟩
        rw [strRep_size, Nat.mul_comm]
        exact h4
    · cases hf
  · split at hf
    · rename_i xs n hc
      obtain ⟨⟨h1, h2⟩, h3, h4⟩ := hc
      cases hf
      cases hy.int_inv
      cases hx with
      | @tup a vs _ ha hr =>
        refine op_repT pins s σ H _ _ v u Q I rx ry ⟨a, n, vs, rfl, rfl, same_sqT hF ha.sqT, fun z => ?_, h1, h2, by rw [hr.length]; exact h4, fun p hp => ?_⟩
        · subst z; cases hr; cases h3
        · have G1 := Gro.lay (o := .tup (List.replicate n.toNat vs).flatten) hF hp
          exact q _ _ _ G1 (.ptp (.inl (.inl upd_same)) ((hr.rep n.toNat).mono G1.ff))
    · cases hf
  · cases hf
/-- a list display * number -/
@[simp] def nRep (mn : EM (List D)) (mb : EM D) : EM (List D) := fun ρ g Q E => mn ρ g (fun xs g1 => mb ρ g1 (fun d g2 => match d with
  | .int k => (0 ≤ k ∧ k ≤ 1000 ∧ xs.length ≤ 1000) ∧ Q (List.replicate k.toNat xs).flatten g2
  | _ => False) E) E
theorem en_rep {a b : Expr} {mn : EM (List D)} {mb : EM D} {pos : Pos} (ha : EN X a mn) (hb : EV X b mb) : EN X (.BinOp a .Mult b pos) (nRep mn mb) := by
  intro B W hB L
  refine pe_mono (pe_op op_rep (ha B W hB L) (hb B W hB L)) ?_
  rintro σ H Q ⟨F, ρ, g, QD, R, w, q⟩
  refine ⟨F, ρ, g, _, R, w, ?_⟩
  intro a1 xs H1 F1 g1 ds k1 R1 hn h1 f1 z1 b1 s1 r1 w1
  refine ⟨F1, ρ, g1, _, R1, w1, ?_⟩
  intro v2 H2 F2 g2 d2 k2 R2 r2 w2
  cases d2 with
  | int k =>
    obtain ⟨⟨c1, c2, c3⟩, w2⟩ := w2
    obtain ⟨y1, y2⟩ := k2.kp a1 _ h1 z1
    have sz := sizeLine_eq
    have le : xs.length * k.toNat ≤ 1000 * 1000 := Nat.mul_le_mul (by rw [r1.length]; exact c3) (by omega)
    refine ⟨a1, k, xs, rfl, r2.int_inv, y1, by omega, by omega, by omega, fun p hp => ?_⟩
    have G1 := Gro.lay0 (o := .lst (List.replicate k.toNat xs).flatten) R2.fh hp
    exact q p _ _ F2 g2 _ ((k1.trans k2).trans G1.ste) (R2.gro G1) ((k1.trans k2).none hp) upd_same (R2.fh.free hp) (R2.fresh_g hp) (R2.fresh_0 hp) (R2.fresh_s hp) ((r1.mono k2.ff).rep k.toNat) w2
  | _ => exact w2.elim
/-! ### repr of lists and tuples -/
theorem noDict_py : True := trivial
mutual
theorem hasDict_py : ∀ d : D, (py d).hasDict = false
  | .non => by simp only [py, PyData.hasDict]
  | .bl _ => by simp only [py, PyData.hasDict]
  | .int _ => by simp only [py, PyData.hasDict]
  | .str _ => by simp only [py, PyData.hasDict]
  | .ref _ => by simp only [py, PyData.hasDict]
  | .dic _ _ => by simp only [py, PyData.hasDict]
  | .obj _ _ => by simp only [py, PyData.hasDict]
  | .tup ds => by simp only [py, PyData.hasDict, hasDict_pyL ds]
  | .ptp ds => by simp only [py, PyData.hasDict, hasDict_pyL ds]
  | .lst ds => by simp only [py, PyData.hasDict, hasDict_pyL ds]
theorem hasDict_pyL : ∀ ds : List D, PyData.hasDictAll (pyL ds) = false
  | [] => by simp only [pyL, PyData.hasDictAll]
  | d :: ds => by simp only [pyL, PyData.hasDictAll, hasDict_py d, hasDict_pyL ds, Bool.or_self]
end
def shownD (d : D) : Str := (py d).shown
def repOk (d : D) : Bool := pok d && dep deepest d && (py d).showable && decide ((shownD d).length ≤ sizeLine)
def reprD : List D → Option D
  | [.lst ds] => if repOk (.lst ds) = true then some (.str (shownD (.lst ds))) else none
  | [.tup ds] => if repOk (.tup ds) = true then some (.str (shownD (.tup ds))) else none
  | [.int i] => if i.natAbs.log2 < 1920 then some (.str (toString i)) else none
  | _ => none
theorem cs_repr {k : Nat} (hr : RoomG k X.A) : CS X (.builtin "repr") reprD := by
  intro pins s σ H F xs us ds dz Q I hF rx hx hf q
  have main : ∀ (d : D) (a : Addr), xs = [.ref a] → Rep X.K F (.ref a) d → repOk d = true → dz = .str (shownD d) → wpAny (model X.prog X.w) X.A (call (.builtin "repr") us) (EP X pins σ Q) X.xe s := by
    intro d a e r ok ez
    subst e ez
    obtain ⟨u, rfl, ru⟩ := rx.one
    unfold repOk at ok
    simp only [Bool.and_eq_true, decide_eq_true_eq] at ok
    obtain ⟨⟨⟨p, dp⟩, sh⟩, sz⟩ := ok
    obtain ⟨as, rd⟩ := Dp.reads I _ _ u (Dp.mono hF (r.dp p)) ru
    have ru' : u = .ref a := ru
    subst ru'
    have hu := hr.r.units
    have := depth_py _ _ dp
    unfold deepest at this
    exact repr_of_reads' rd sh (fun z => by rw [hasDict_py] at z; cases z) hr.gd (by omega) (fun _ _ z => z)
      (fun h' t tk hk => ⟨.str _, H, I.kept (t' := tk) hk, ⟨t, rfl⟩, q _ F H (Gro.refl hF) (.str _)⟩) sz
  unfold reprD at hf
  split at hf
  · split at hf
    · rename_i es ho
      cases hf
      obtain ⟨v, rfl, r⟩ := hx.one_inv
      cases r with
      | lst hs hr => exact main _ _ rfl (.lst hs hr) ho rfl
    · cases hf
  · split at hf
    · rename_i es ho
      cases hf
      obtain ⟨v, rfl, r⟩ := hx.one_inv
      cases r with
      | tup hs hr => exact main _ _ rfl (.tup hs hr) ho rfl
    · cases hf
  · split at hf
    · rename_i i ho
      cases hf
      obtain ⟨v, rfl, r⟩ := hx.one_inv
      cases r.int_inv
      exact SkE.call_repr_int pins s σ H _ us Q I rx ⟨i, rfl, ho, q _ F H (Gro.refl hF) (.str _)⟩
    · cases hf
  · cases hf
/-! ### two lists of numbers -/
theorem eqv_ints : ∀ ns ms : List Int, PyData.eqvAll (pyL (ns.map .int)) (pyL (ms.map .int)) = decide (ns = ms)
  | [], [] => by simp [pyL, PyData.eqvAll]
  | [], _ :: _ => by simp [pyL, PyData.eqvAll]
  | _ :: _, [] => by simp [pyL, PyData.eqvAll]
  | n :: ns, m :: ms => by
    have ih := eqv_ints ns ms
    simp only [List.map_cons, pyL, PyData.eqvAll, py, PyData.eqv, ih]
    by_cases h : n = m <;> simp [h]
theorem eqD_ll (ns ms : List Int) : eqD (.lst (ns.map .int)) (.lst (ms.map .int)) = some (.bl (decide (ns = ms))) := by
  unfold eqD eqOk
  rw [if_pos (by simp [pok_ii, dep_ii])]
  simp only [py, PyData.eqv, eqv_ints]
theorem eqD_tt (ns ms : List Int) : eqD (.tup (ns.map .int)) (.tup (ms.map .int)) = some (.bl (decide (ns = ms))) := by
  unfold eqD eqOk
  rw [if_pos (by simp [pok_iit, dep_iit])]
  simp only [py, PyData.eqv, eqv_ints]
theorem eqD_nil {ds : List D} (h : pokL ds = true) : eqD (.lst ds) (.lst []) = some (.bl ds.isEmpty) := by
  unfold eqD eqOk
  rw [if_pos (by simp [pok, h, pokL, deepest, dep, depL])]
  cases ds <;> simp [py, pyL, PyData.eqv, PyData.eqvAll]
@[simp] theorem eqD_str {a b : Str} : eqD (.str a) (.str b) = some (.bl (decide (a = b))) := by
  unfold eqD eqOk
  simp [py, PyData.eqv]
  by_cases h : a = b <;> simp [h]
@[simp] theorem neD_str {a b : Str} : neD (.str a) (.str b) = some (.bl (!decide (a = b))) := by
  unfold neD eqOk
  simp [py, PyData.eqv]
  by_cases h : a = b <;> simp [h]
end
end DL

set_option Elab.async false
set_option linter.all false
set_option maxRecDepth 100000
namespace DL
open PySem PySem.Spec PyProof.Rows L2
section
variable {X : Cx}
/-! ### max(xs, default=d) -/
theorem dpAll_ints {K : PySem.W.Frag} {F : Hp} : ∀ ns : List Int, DpAll K F (ns.map V.int) (ns.map PyData.int)
  | [] => .nil
  | n :: ns => .cons (.int n) (dpAll_ints ns)
theorem depthAll_ints : ∀ ns : List Int, PyData.depthAll (ns.map PyData.int) = 0
  | [] => by simp [PyData.depthAll]
  | n :: ns => by simp [PyData.depthAll, PyData.depth, depthAll_ints ns]
theorem alike_ints (ns : List Int) : PySem.W.AlikeAll (ns.map PyData.int) := by
  refine ⟨fun x hx y hy => ?_, fun x hx => ?_⟩
  · obtain ⟨i, _, rfl⟩ := List.mem_map.mp hx
    obtain ⟨j, _, rfl⟩ := List.mem_map.mp hy
    rfl
  · obtain ⟨i, _, rfl⟩ := List.mem_map.mp hx
    intro z; cases z
def rMaxDef (K : PySem.W.Frag) : List V → List V → Hp → VK → Prop := fun vs zs H Q => ∃ (a : Addr) (ns : List Int) (d : Int), vs = [.ref a] ∧ zs = [.int d] ∧ SqL K H a (ns.map V.int) ∧
  Q (.int (if ns.isEmpty = true then d else maxI ns)) H
theorem cr_maxDef {k : Nat} (hr : Room k X.A) (hc : X.calm = true) : CallRK X (.builtin "max") [Str.ofString "default"] (rMaxDef X.K) := by
  intro pins s σ H vs zs us ws Q I r rz h
  obtain ⟨a, ns, d, rfl, rfl, hs, q⟩ := h
  obtain ⟨its, rv, hl, _⟩ := I.list hs
  rw [Vals.ref1 r]
  obtain ⟨u, rfl, ru⟩ := rz.one
  obtain ⟨as, rd⟩ := Dp.readsAll I _ _ its (dpAll_ints (K := X.K) (F := H) ns) rv
  have hu := hr.units
  refine PySem.W.max_list_default (I.ok.hd hc) hl.isList (by simpa using rd) (alike_ints ns) (by rw [depthAll_ints]; omega) (fun e h' tk hk => ?_) fun y ys i v h' tk bs e hi rv hk => ?_
  · have e' : ns = [] := List.map_eq_nil_iff.mp e
    subst e'
    exact ⟨.int d, H, I.kept (t' := tk) hk, ru, q⟩
  · cases ns with
    | nil => cases e
    | cons n ns =>
      rw [List.map_cons] at e
      obtain ⟨rfl, rfl⟩ := List.cons.inj e
      rw [PySem.W.maxD_ints] at rv
      cases rv
      exact ⟨.int _, H, I.kept (t' := tk) hk, ⟨_, rfl⟩, q⟩
@[simp] def maxDD (x y : D) : Option D := match x, y with
  | .lst ds, .int k => (intsOf ds).map fun ns => .int (if ns.isEmpty = true then k else maxI ns)
  | _, _ => none
theorem ev_maxD {a b : Expr} {p pos kp : Pos} {k : Nat} {ma mb : EM D} (hr : Room k X.A) (hc : X.calm = true) (hg : Gl X "max") (hm : X.mg "max" = none) (ha : EV X a ma) (hb : EV X b mb)
    (h1 : starEach [a] X.env = (false, eval a X.env) :: starEach [] X.env := by rfl)
    (he : backTo pos (starEach [a] X.env) = (false, eval a X.env) :: backTo pos (starEach [] X.env) := by rfl) (hpl : (backTo pos (starEach [a] X.env)).any (·.1) = false := by rfl)
    (hall : (backToKw pos (keywordEach [⟨some "default", b, kp⟩] X.env)).all (·.1.isSome) = true := by rfl) (hnone : (backToKw pos (keywordEach [⟨some "default", b, kp⟩] X.env)).any (·.1.isNone) = false := by rfl)
    (hks : (backToKw pos (keywordEach [⟨some "default", b, kp⟩] X.env)).filterMap (·.1) = [Str.ofString "default"] := by rfl) :
    EV X (.Call (.Name "max" p) [a] [⟨some "default", b, kp⟩] pos) (e2 maxDD ma mb) := by
  intro B W hB L
  refine pe_mono (pe_callBK (cr_maxDef hr hc) hg hm PyProof.Rows.boot_max (pa_cons (ha B W hB L) pa_nil h1) (pk_cons (hb B W hB L) pk_nil) (by decide) (by decide) he hpl hall hnone hks) ?_
  rintro σ H Q ⟨F, ρ, g, QD, R, w, q⟩
  refine ⟨F, ρ, g, _, R, w, ?_⟩
  intro v1 H1 F1 g1 d1 k1 R1 r1 w1
  refine ⟨F1, ρ, g1, _, R1, w1, ?_⟩
  intro v2 H2 F2 g2 d2 k2 R2 r2 w2
  have r1 := r1.mono k2.ff
  cases d1 with
  | lst ds =>
    cases d2 with
    | int d =>
      cases hz : intsOf ds with
      | none => simp [hz] at w2
      | some ns =>
        simp only [maxDD, hz, Option.map_some] at w2
        rw [intsOf_eq hz] at r1
        cases r1 with
        | lst hs hr1 => exact ⟨_, ns, d, rfl, by rw [r2.int_inv], by rw [← hB, ← hr1.ints]; exact R2.fh.seq hs, q _ H2 F2 g2 _ (k1.trans k2) R2 (.int _) w2⟩
    | _ => exact w2.elim
  | _ => exact w2.elim
/-! ### defs with one keyword-only parameter, None where it is not given -/
structure DefK (P : Program) (w : World) (K : PySem.W.Frag) (mg : Str → Option Value) (base : Heap) (x : Str) (k n : Nat) (kw : Str) (sp : FSp) : Prop where
  ex : ∃ (f : Addr) (fd : FuncData) (ps : List Str), FnG P w K mg base (L2.CX P w) k f fd ps (lift K sp) ∧ mg x = some (.ref f) ∧ PySem.W.keepIn K (.ref f) = true ∧ (∃ ds, Vals [V.non] ds ∧ Binds K fd ps ds) ∧
    KBn K fd ps n [kw] (fun us ws => us ++ ws) (fun vs zs => vs ++ zs)
theorem funD_mk {K : PySem.W.Frag} {x qual kw : Str} {st : Stmt} {f kD : Addr} {oc : Value} {od an : Option Addr} {osl : Array (Option Value)} {doc pm cdv ct : Value}
    (l : K.lookup f = some ⟨oc, od, .func (PySem.W.fnOf x qual (defArgs st) (defBody st) (defScope st) .none (.ref kD) doc pm an cdv ct), osl⟩) (c : PySem.W.codeIn K cdv qual = true) (k : PySem.W.keepIn K (.ref f) = true)
    (q : PySem.W.nsIn K kD kw = some (some .none)) : FunD K x qual (defArgs st) (defBody st) (defScope st) [] [(kw, V.non)] f (PySem.W.fnOf x qual (defArgs st) (defBody st) (defScope st) .none (.ref kD) doc pm an cdv ct) :=
  ⟨⟨oc, od, .none, .ref kD, doc, pm, an, cdv, ct, osl, rfl, l, c, .inl ⟨rfl, rfl⟩, .inr ⟨kD, rfl, fun y hy => by
    rcases List.mem_cons.mp hy with rfl | z
    · exact ⟨_, q, rfl⟩
    · cases z⟩⟩, k⟩
@[simp] def eCallD (sp : FSp) (ms : EM (List D)) : EM D := fun ρ g Q E => ms ρ g (fun ds g1 => sp (ds ++ [.non]) g1 (Hide Q ⟨⟩) E) E
@[simp] def eCallW (n : Nat) (sp : FSp) (ms : EM (List D)) (mk : EM D) : EM D := fun ρ g Q E => ms ρ g (fun ds g1 => mk ρ g1 (fun d g2 => ds.length = n ∧ sp (ds ++ [d]) g2 (Hide Q ⟨⟩) E) E) E
variable {e b : Expr} {es : List Expr} {ms : EM (List D)} {mb : EM D} {pos : Pos}
theorem ev_callD {x kw : Str} {p : Pos} {k n : Nat} {sp : FSp} (hD : DefK X.prog X.w X.K X.mg X.base x k n kw sp) (hr : RoomG k X.A) (hg : Gl X x) (ha : EVs X (e :: es) ms) (hdb : (x == ("__debug__" : Str)) = false := by decide)
    (he : starEach (e :: es) X.env = (false, eval e X.env) :: starEach es X.env := by rfl) (hpl : (backTo pos (starEach es X.env)).any (·.1) = false := by rfl) : EV X (.Call (.Name x p) (e :: es) [] pos) (eCallD sp ms) := by
  intro B W hB L
  obtain ⟨f, fd, ps, hF, hm, hk, ⟨zs, hz, hb⟩, _⟩ := hD.ex
  refine pe_mono (pe_callG (E := WE (WXof B W)) hF hr hg hm hk hb hz (fun σ => passAt L σ) (ha B W hB L) hdb he hpl) ?_
  rintro σ H Q ⟨F, ρ, g, QD, R, w, q⟩
  refine ⟨F, ρ, g, _, R, w, ?_⟩
  intro vs H1 F1 g1 ds k1 R1 r1 w1
  rw [← hB]
  refine ⟨F1, g1, ds ++ [.non], QD, _, r1.append (.one .non), R1.enter, w1, ?_, ?_⟩
  · intro v H' F' g' d C r w2
    exact q v H' F' g' d (k1.trans (Rl.ste C)) (R1.after C) r w2
  · intro cls dx H' F' g' x C xr w2
    exact ⟨F', ρ, g', x, R1.after C, xr, w2⟩
theorem run_GK {CX : CXT} {k n : Nat} {f : Addr} {fd : FuncData} {ps ks : List Str} {sp : Sp} {E : L2.St → XK} {gA : List Value → List Value → List Value} {gV : List V → List V → List V} {pins : List (Addr × Obj)} {σ : L2.St} {H : Hp} {s : Shared} {Q : VK} {us ws : List Value} {vs zs : List V}
    (F : FnG X.prog X.w X.K X.mg X.base CX k f fd ps sp) (g : RoomG k X.A) (hb : KBn X.K fd ps n ks gA gV) (hx : PassesAt CX X σ (E σ)) (I : Inv X pins σ H s) (r : Vals vs us) (rz : Vals zs ws) (l1 : vs.length = n) (l2 : zs.length = ks.length)
    (h : sp (gV vs zs) H Q (E σ)) : wpAny (model X.prog X.w) X.A (call (.ref f) us (ks.zip ws)) (EP X pins σ Q) X.xe s := by
  have go := F.run X.A X.stack s H ⟨us, ks.zip ws⟩ (gA us ws) (gV vs zs) Q (E σ) g I.env0 (hb.to s us ws I.kIn (r.length.symm.trans l1) (rz.length.symm.trans l2)) (hb.rel r rz) h
  refine wpAny_call (codeAny_mono go fun res s' hq => ?_)
  match res, hq with
  | .error e, hq => exact hx pins H s e s' I hq
  | .ok (.ret u), hq => exact I.after hq
  | .ok .next, hq => exact hq.elim
  | .ok .brk, hq => exact hq.elim
  | .ok .cont, hq => exact hq.elim
theorem ev_callW {x kw : Str} {p kp : Pos} {k n : Nat} {sp : FSp} (hD : DefK X.prog X.w X.K X.mg X.base x k n kw sp) (hr : RoomG k X.A) (gl : Gl X x) (ha : EVs X (e :: es) ms) (hv : EV X b mb) (hdb : (x == ("__debug__" : Str)) = false := by decide)
    (hall : (backToKw pos (keywordEach [⟨some kw, b, kp⟩] X.env)).all (·.1.isSome) = true := by rfl) (hks : (backToKw pos (keywordEach [⟨some kw, b, kp⟩] X.env)).filterMap (·.1) = [kw] := by rfl)
    (he : starEach (e :: es) X.env = (false, eval e X.env) :: starEach es X.env := by rfl)
    (hpl : ((backTo pos (starEach (e :: es) X.env)).any (·.1) || (backToKw pos (keywordEach [⟨some kw, b, kp⟩] X.env)).any (·.1.isNone)) = false := by rfl) : EV X (.Call (.Name x p) (e :: es) [⟨some kw, b, kp⟩] pos) (eCallW n sp ms mb) := by
  intro B W hB L
  obtain ⟨f, fd, ps, hF, hm, kp', _, hb⟩ := hD.ex
  have base : PE X (.Call (.Name x p) (e :: es) [⟨some kw, b, kp⟩] pos) (fun σ H Q => tEs B W ms σ H fun vs H1 => tE B W mb σ H1 fun z H2 => vs.length = n ∧ lift B.K sp (vs ++ [z]) H2 Q (WE (WXof B W) σ)) := by
    constructor
    intro pins s σ H Q I h
    apply wpAny_Call_Name_kw
    apply ld_glob I gl hm ?_ hdb
    apply PySem.W.callWith_KW (h₀ := X.base) I.ok.mod.kin kp' hall (thn ((ha B W hB L).run pos pins s σ H _ I h) ?_) hpl he
    rintro us s1 ⟨vs, H1, I1, r, q⟩
    refine thn ((pk_cons (nm := some kw) (kpos := kp) (hv B W hB L) pk_nil).run pos pins s1 σ H1 (fun zs H2 => ∃ z, zs = [z] ∧ vs.length = n ∧ lift B.K sp (vs ++ [z]) H2 Q (WE (WXof B W) σ)) I1 ?_) ?_
    · obtain ⟨F, ρ, g, QD, R, w, q⟩ := q
      exact ⟨F, ρ, g, QD, R, w, fun v H' F' g' d k R' r' w' => ⟨v, rfl, q v H' F' g' d k R' r' w'⟩⟩
    · rintro ws s2 ⟨zs, H2, I2, rz, z, rfl, l1, q2⟩
      refine ⟨I2.kIn, ?_⟩
      rw [hks]
      rw [hB] at q2
      exact run_GK hF hr hb (passAt L σ) I2 r rz l1 rfl q2
  refine pe_mono base ?_
  rintro σ H Q ⟨F, ρ, g, QD, R, w, q⟩
  refine ⟨F, ρ, g, _, R, w, ?_⟩
  intro vs H1 F1 g1 ds k1 R1 r1 w1
  refine ⟨F1, ρ, g1, _, R1, w1, ?_⟩
  intro z H2 F2 g2 d k2 R2 r2 ⟨hl, w2⟩
  refine ⟨by rw [r1.length]; exact hl, F2, g2, ds ++ [d], QD, _, (r1.mono k2.ff).append (.one r2), R2.enter, w2, ?_, ?_⟩
  · intro v H' F' g' d C r w2
    exact q v H' F' g' d ((k1.trans k2).trans (Rl.ste C)) (R2.after C) r w2
  · intro cls dx H' F' g' x C xr w2
    exact ⟨F', ρ, g', x, R2.after C, xr, w2⟩
end
end DL

set_option Elab.async false
set_option linter.all false
set_option maxRecDepth 100000
namespace DL
open PySem PySem.Spec PyProof.Rows L2
section
variable {X : Cx} {a b c : Expr} {pos : Pos}
/-- x, y, z = values, plain local names -/
theorem sv_par3 {i j k : Nat} {x y z : Str} {px py pz pt : Pos} {kt k2 : Nat} {pt2 : Pos} {mk : EM (List Sl)} (hc : X.calm = true) (hN : X.N.Nodup) (he : EKs X [a, b, c] mk) (hi : X.N[i]? = some x := by rfl) (hj : X.N[j]? = some y := by rfl) (hk : X.N[k]? = some z := by rfl)
    (hij : i ≠ j := by decide) (hik : i ≠ k := by decide) (hjk : j ≠ k := by decide)
    (hx : X.env.scope.names.lookup x = some .local := by rfl) (hy : X.env.scope.names.lookup y = some .local := by rfl) (hz : X.env.scope.names.lookup z = some .local := by rfl)
    (hw : swappedStores [.Tuple [.Name x px, .Name y py, .Name z pz] kt pt] (.Tuple [a, b, c] k2 pt2) X.env = pure (some [x, y, z]) := by rfl)
    (hs : swapsWithSole [.Tuple [.Name x px, .Name y py, .Name z pz] kt pt] (.Tuple [a, b, c] k2 pt2) pos.line X.env = pure false := by rfl) :
    SV X (.Assign [.Tuple [.Name x px, .Name y py, .Name z pz] kt pt] (.Tuple [a, b, c] k2 pt2) pos) (sParT [i, j, k] mk) := by
  intro B W hB L
  refine ps_mono (ps_par3 hc hN hi hj hk hij hik hjk hx hy hz (he B W hB L) hw hs) ?_
  rintro D σ H ⟨F, ρ, g, DD, R, w, q⟩
  refine ⟨F, ρ, g, _, R, w, ?_⟩
  intro us H1 F1 g1 ss k1 R1 kl fr ⟨⟨hl, hz'⟩, w1⟩
  have hul : us.length = 3 := by rw [kl.length]; exact hl
  obtain ⟨u, v, w', rfl⟩ : ∃ u v w', us = [u, v, w'] := by
    match us, hul with
    | [u, v, w'], _ => exact ⟨u, v, w', rfl⟩
  refine ⟨u, v, w', rfl, ?_⟩
  split at w1
  · rename_i ρ' hss
    have h := Rl.setK [i, j, k] [u, v, w'] ss ρ ρ' σ (fun σ' H => D.nx σ' H) R1 kl hss fun σ' R' => q.nx σ' _ F1 ρ' g1 k1.ff R' w1
    obtain ⟨v1, r1, e1, v2, r2, e2, v3, r3, e3, e4, h⟩ := h
    cases e1
    cases e2
    cases e3
    exact h
  · exact w1.elim
end
end DL

set_option Elab.async false
set_option linter.all false
set_option maxRecDepth 100000
namespace DL
open PySem PySem.Spec PyProof.Rows L2
/-! ### an own list becomes a value -/
theorem Rl.drop1 {B : Bs} {F : Hp} {ρ : Rho} {g : G} {σ : L2.St} {H : Hp} (R : Rl B F ρ g σ H) (i : Nat) : Rl B F (ρ.set i .no) g σ H := by
  have key : ∀ {j : Nat} {s : Sl}, (ρ.set i .no)[j]? = some s → s = .no ∨ (i ≠ j ∧ ρ[j]? = some s) := fun {j s} e => by
    by_cases h : i = j
    · subst h
      have hl : i < ρ.length := by
        have := (List.getElem?_eq_some_iff.mp e).1
        rwa [List.length_set] at this
      rw [List.getElem?_set_self hl] at e
      exact .inl (Option.some.inj e).symm
    · rw [List.getElem?_set_ne h] at e
      exact .inr ⟨h, e⟩
  refine ⟨R.fh, R.f0, R.fn, R.dm, R.fr, R.gg, fun j s e => ?_, fun j k a ds es e1 e2 e3 e4 => ?_, by rw [List.length_set]; exact R.ln⟩
  · rcases key e with rfl | ⟨_, e'⟩
    · trivial
    · exact R.sl j s e'
  · rcases key e1 with z | ⟨_, e1'⟩
    · cases z
    · rcases key e2 with z | ⟨_, e2'⟩
      · cases z
      · exact R.dj j k a ds es e1' e2' e3 e4
theorem Rl.frz1 {B : Bs} {F : Hp} {ρ : Rho} {g : G} {σ : L2.St} {H : Hp} {i : Nat} {ds : List D} (R : Rl B F ρ g σ H) (hi : ρ[i]? = some (.acc ds)) : ∃ F', Same F F' ∧ Rl B F' (ρ.set i (.val (.lst ds))) g σ H := by
  obtain ⟨a, xs, e1, h1, h2, h3, h4, h5⟩ := R.sl i _ hi
  have hl : i < ρ.length := (List.getElem?_eq_some_iff.mp hi).1
  have R1 := (R.drop1 i).freeze (o := .lst xs) h1 h3 h4 h5 fun j es ej z => by
    by_cases h : i = j
    · subst h
      rw [List.getElem?_set_self hl] at ej; cases ej
    · rw [List.getElem?_set_ne h] at ej
      exact h (R.dj i j a ds es hi ej e1 z)
  have ef : Same F (upd F a (.lst xs)) := fun b u e => by rw [upd_ne (ne_of_none e h3)]; exact e
  have R2 := R1.set i (v := .ref a) (d := .lst ds) (.lst (.inl (.inl upd_same)) (h2.mono ef))
  rw [List.set_set] at R2
  have es : σ.set i (some (.ref a)) = σ := by
    refine List.ext_getElem? fun j => ?_
    by_cases h : i = j
    · subst h
      rw [List.getElem?_set_self (by rw [← R.ln]; exact hl), e1]
    · rw [List.getElem?_set_ne h]
  rw [es] at R2
  exact ⟨_, ef, R2⟩
def sFrz (i : Nat) (m : SM) : SM := fun DD W ρ g => match ρ[i]? with
  | some (.acc ds) => m DD W (ρ.set i (.val (.lst ds))) g
  | _ => False
@[simp] theorem sFrz_eq {i : Nat} {m : SM} {DD : SE} {W : Wi} {ρ : Rho} {g : G} : sFrz i m DD W ρ g = match ρ[i]? with
  | some (.acc ds) => m DD W (ρ.set i (.val (.lst ds))) g
  | _ => False := rfl
theorem sv_frz {X : Cx} {s : Stmt} {m : SM} {i : Nat} (h : SV X s m) : SV X s (sFrz i m) := by
  intro B W hB L
  refine ps_mono (h B W hB L) ?_
  rintro D σ H ⟨F, ρ, g, DD, R, w, q⟩
  unfold sFrz at w
  split at w
  · rename_i ds hi
    obtain ⟨F', e, R'⟩ := R.frz1 hi
    exact ⟨F', _, g, DD, R', w, q.mono e⟩
  · exact w.elim
/-! ### sum(xs) -/
@[simp] def sumD : List D → Option D
  | [.lst ds] => (intsOf ds).map fun ns => .int ns.sum
  | _ => none
theorem cs_sum {X : Cx} (hc : X.calm = true) : CS X (.builtin "sum") sumD := by
  refine cs_of (cr_sum hc) fun F H xs ds dz Q hF hx hf q => ?_
  unfold sumD at hf
  split at hf
  · rename_i es
    cases hb : intsOf es with
    | none => rw [hb] at hf; cases hf
    | some ns =>
      rw [hb] at hf
      cases hf
      obtain ⟨v, rfl, r⟩ := hx.one_inv
      cases r with
      | lst hs hr =>
        rw [intsOf_eq hb] at hr
        exact ⟨_, ns, rfl, by rw [← hr.ints]; exact hF.seq hs, q _ F H (Gro.refl hF) (.int _)⟩
  · cases hf
end DL

set_option Elab.async false
set_option linter.all false
set_option maxRecDepth 100000
namespace DL
open PySem PySem.Spec PyProof.Rows L2
/-! ### set & set, of ints -/
section
variable {P : Program} {w : World} {A : Around} {E : Value → Shared → Prop} {s : Shared}
theorem setWalk_perm {a : Addr} {o : Obj} {es : Array (Int × Value)} {ep : Nat} {t : SetTable} {Q : Array (Int × Value) → Shared → Prop} (ho : s.heap.get? a = some o) (hd : o.data = .set es ep t) (hf : t.fits es.size = true)
    (hl : w.params.followText "set-order" = true ∨ t.led = true) (h : ∀ ys d, ys.toList.Perm es.toList → Q ys { s with drawn := d }) : wpAny (model P w) A (setWalk a) Q E s := by
  unfold setWalk
  refine wpAny_bind (wpAny_setState_of ho hd hf ?_)
  dsimp only
  refine wpAny_bind (wpAny_byText ?_)
  cases hb : w.params.followText "set-order" with
  | true =>
    refine wp_if_pos rfl ?_
    exact wpAny_bind (wpAny_askSetting (wpAny_pure (h _ s.drawn (pick_perm _ _))))
  | false =>
    refine wp_if_neg Bool.false_ne_true ?_
    have led : t.led = true := by
      rcases hl with z | z
      · rw [hb] at z; cases z
      · exact z
    cases hdr : (!t.plain && decide (es.size > 1)) with
    | true =>
      refine wp_if_pos (by show (!t.plain && decide (es.size > 1)) = true; exact hdr) ?_
      refine wpAny_bind (drawOrder_at _ _ _ _ (by simp) fun ys d p => wpAny_pure (h ys.toArray d ?_))
      simpa using p
    | false =>
      refine wp_if_neg (by show ¬ ((!t.plain && decide (es.size > 1)) = true); rw [hdr]; exact Bool.false_ne_true) ?_
      refine wpAny_bind (wpAny_of_eq (a := ()) ?_ ?_)
      · show (if (!t.led && decide (es.size > 1)) = true then unsupported "set:maker-not-led" else pure ()) = pure ()
        rw [led] <;> rfl
      · exact wpAny_pure (h es s.drawn (List.Perm.refl _))
def SetI (h : Heap) (a : Addr) : Prop := ∃ o es ep t, h.get? a = some o ∧ o.data = .set es ep t ∧ t.fits es.size = true ∧ ∀ e ∈ es.toList, GoodE e
theorem setI_of {h : Heap} {a : Addr} {S : Int → Bool} {n : Nat} (R : SetR w h a S n) : SetI h a := by
  obtain ⟨o, es, ep, t, ho, _, hd, g, _, _, _, hf, _⟩ := R
  exact ⟨o, es, ep, t, ho, hd, hf, g⟩
theorem quiet_at {sets : List Addr} {Q : Bool → Shared → Prop} (h : ∀ a ∈ sets, SetI s.heap a) (q : Q true s) : wpAny (model P w) A (setsQuiet sets) Q E s := by
  unfold setsQuiet
  refine wpAny_bind (wpAny_mono (wpAny_forIn_list _ (fun rest b s' => b = (none, ()) ∧ s' = s ∧ ∀ a ∈ rest, SetI s.heap a) (fun b s' => b = (none, ()) ∧ s' = s) ?_ ?_ _ _ ⟨rfl, rfl, h⟩) ?_ fun _ _ z => z)
  · rintro a rest b s' ⟨rfl, rfl, hr⟩
    obtain ⟨o, es, ep, t, ho, hd, hf, g⟩ := hr a (List.mem_cons_self ..)
    unfold setEntries
    refine wpAny_bind (wpAny_bind (wpAny_setState_of ho hd hf (wpAny_pure ?_)))
    refine wpAny_bind (wpAny_mono (PySem.MeetsSeq2.wpAny_forIn_array _ (fun rest b s2 => b = (none, ()) ∧ s2 = s' ∧ ∀ e ∈ rest, GoodE e) (fun b s2 => b = (none, ()) ∧ s2 = s') ?_ ?_ _ _ ⟨rfl, rfl, g⟩) ?_ fun _ _ z => z)
    · rintro ⟨k, x⟩ rest2 b s2 ⟨rfl, rfl, hg⟩
      obtain ⟨i, tk, e1, _⟩ := hg _ (List.mem_cons_self ..)
      simp only at e1
      subst e1
      exact wpAny_pure ⟨rfl, rfl, fun e he => hg e (List.mem_cons_of_mem _ he)⟩
    · rintro b s2 ⟨rfl, rfl, _⟩
      exact ⟨rfl, rfl⟩
    · rintro b s2 ⟨rfl, rfl⟩
      exact wpAny_pure ⟨rfl, rfl, fun b hb => hr b (List.mem_cons_of_mem _ hb)⟩
  · rintro b s' ⟨rfl, rfl, _⟩
    exact ⟨rfl, rfl⟩
  · rintro b s' ⟨rfl, rfl⟩
    exact wpAny_pure q
/-- what is walked of one set where another is filled -/
theorem unseen_at {a asked r : Addr} {S S2 Sr : Int → Bool} {n n2 nr : Nat} {Q : Array (Int × Value) → Shared → Prop} (R : SetR w s.heap a S n) (R2 : SetR w s.heap asked S2 n2) (Rr : SetR w s.heap r Sr nr) (hne : r ≠ a) (hne2 : r ≠ asked)
    (h : ∀ ys h' d, (∀ e ∈ ys.toList, GoodE e) → (ys.toList.map L2.keyOf).Nodup → (∀ k, S k = true ↔ k ∈ ys.toList.map L2.keyOf) → ys.size = n ∧ n < scanBound → SetR w h' r Sr nr → (∀ b o, b ≠ r → s.heap.get? b = some o → h'.get? b = some o) → h'.objs.size = s.heap.objs.size → Q ys { s with heap := h', drawn := d }) :
    wpAny (model P w) A (setWalkUnseen a [asked, r] (some r)) Q E s := by
  have sI := setI_of R
  have sI2 := setI_of R2
  have sIr := setI_of Rr
  obtain ⟨o, es, ep, t, ho, hx, hd, g, nd, hm, hb, hf, hn, hri, hl⟩ := R
  have walk : wpAny (model P w) A (setWalk a) Q E s := setWalk_perm ho hd hf hl fun ys d p => by
    refine h ys s.heap d (fun e he => g e (p.mem_iff.mp he)) ((p.map L2.keyOf).nodup_iff.mpr nd) (fun k => (hm k).trans (p.map L2.keyOf).mem_iff.symm) ⟨by rw [← Array.length_toList, p.length_eq, Array.length_toList]; exact hn, by rw [← hn]; exact hb⟩ Rr (fun _ _ _ z => z) rfl
  unfold setWalkUnseen
  refine wpAny_bind (wpAny_setState_of ho hd hf ?_)
  dsimp only
  refine wpAny_bind (wpAny_byText ?_)
  cases hc : (w.params.followText "set-order" || (t.led && t.plain) || decide (es.size ≤ 1)) with
  | true =>
    refine wp_if_pos rfl ?_
    exact walk
  | false =>
    refine wp_if_neg Bool.false_ne_true ?_
    try refine wpAny_bind (wpAny_pure ?_)
    refine wpAny_bind (quiet_at (fun b hb => ?_) ?_)
    · simp only [List.mem_cons, List.not_mem_nil, or_false] at hb
      rcases hb with rfl | rfl | rfl
      · exact sI
      · exact sI2
      · exact sIr
    · refine wp_if_neg (by simp) ?_
      try refine wpAny_bind (wpAny_pure ?_)
      refine wpAny_bind (wpAny_rule ?_)
      obtain ⟨o', es', ep', t', ho', hx', hd', g', nd', hm', hb', hf', hn', hri', hl'⟩ := Rr
      refine wpAny_bind (wpAny_setState_of ho' hd' hf' ?_)
      dsimp only
      have fin0 : Q es s := by
        have := h es s.heap s.drawn g nd hm ⟨hn, by rw [← hn]; exact hb⟩ ⟨o', es', ep', t', ho', hx', hd', g', nd', hm', hb', hf', hn', hri', hl'⟩ (fun _ _ _ z => z) rfl
        exact this
      split
      · refine wpAny_bind (wpAny_storeSet_of ho' hd' ?_ (fits_of_scanBound hb'))
        have hlL : w.params.followText "set-order" = true ∨ (t'.led && t.led) = true := by
          rcases hl' with z | z
          · exact Or.inl z
          · rcases hl with z2 | z2
            · exact Or.inl z2
            · exact Or.inr (by rw [z, z2]; rfl)
        exact wpAny_pure (h es _ s.drawn g nd hm ⟨hn, by rw [← hn]; exact hb⟩ ⟨_, es', ep' + 1, _, store_at ho' hd', hx', rfl, g', nd', hm', hb', hf', hn', hri', hlL⟩ (fun b o hb2 e => PySem.Heap.get?_update_of_ne _ (Ne.symm hb2) e) (by simp))
      · exact wpAny_pure fin0
end
end DL

set_option Elab.async false
set_option linter.all false
set_option maxRecDepth 100000
namespace DL
open PySem PySem.Spec PyProof.Rows L2
section
variable {P : Program} {w : World} {A : Around} {E : Value → Shared → Prop} {s : Shared}
theorem entry_set_and : entryFor table "set.__and__" = some Builtin.«frozenset.__and__» :=
  entryFor_alias (id' := "frozenset.__and__") (by kernel_rfl) rfl (by decide +kernel) (by kernel_rfl)
/-- what the loop of an intersection fills -/
structure Both (w : World) (s0 s : Shared) (r : Addr) (S S2 : Int → Bool) (done : List Int) : Prop where
  fst : s.gens = s0.gens
  snd : s.os = s0.os
  tok : s.toks = s0.toks
  keep : ∀ x o, x ≠ r → s0.heap.get? x = some o → s.heap.get? x = some o
  made : ∃ c, SetR w s.heap r (fun k => S k && decide (k ∈ done)) c ∧ c ≤ done.length
theorem inter_step {a r : Addr} {S S2 : Int → Bool} {n : Nat} {s0 : Shared} {h : Int} {k : Int} {tk : Tok} {done : List Int} {Q : ForInStep PUnit → Shared → Prop} (R : SetR w s0.heap a S n) (har : a ≠ r) (hk : h = hashInt k) (B : Both w s0 s r S S2 done) (nk : k ∉ done) (room : done.length + 1 < scanBound) (id : String) (b : Addr) (ep : Nat)
    (hep : ∃ o es t, s0.heap.get? b = some o ∧ o.data = .set es ep t ∧ t.fits es.size = true) (hbr : b ≠ r)
    (q : ∀ s', Both w s0 s' r S S2 (k :: done) → Q (.yield ⟨⟩) s') :
    wpAny (model P w) A (do
      holding [.int k tk] do
        let ok ← setFind a (.int k tk) h
        if ok.isSome = true then do
            let _ ← setAddHashed r (.int k tk) h
            pure ()
          else pure ()
      Builtin.Frozenset.unchanged id b ep
      pure (ForInStep.yield PUnit.unit)) Q E s := by
  subst hk
  have Ra := R.at (h' := s.heap) fun o e => B.keep a o har e
  obtain ⟨c, Rr, hc⟩ := B.made
  have un : ∀ (s' : Shared), (∀ x o, x ≠ r → s0.heap.get? x = some o → s'.heap.get? x = some o) → Q (.yield ⟨⟩) s' → wpAny (model P w) A (do Builtin.Frozenset.unchanged id b ep; pure (ForInStep.yield PUnit.unit)) Q E s' := by
    intro s' k' q'
    obtain ⟨o, es, t, ho, hd, hf⟩ := hep
    refine wpAny_bind ?_
    unfold Builtin.Frozenset.unchanged setEpoch
    refine wpAny_bind (wpAny_bind (wpAny_setState_of (k' b o hbr ho) hd hf (wpAny_pure ?_)))
    refine wp_if_neg (by simp) (wpAny_pure (wpAny_pure q'))
  refine wpAny_bind (wpAny_holding ?_)
  refine wpAny_bind (wpAny_setFind_of (knd := intKind P w) (k := k) (intKind_is _ _ _ _) rfl Ra.setOf fun rr hr => ?_)
  cases hS : S k with
  | true =>
    rw [hS] at hr
    refine wp_if_pos hr ?_
    refine wpAny_bind (setR_add_hashed Rr (by omega) fun h' sb R' => ?_)
    refine wpAny_pure (un _ (fun x o hx e => sb.2 x hx |>.trans (B.keep x o hx e)) (q _ ⟨B.fst, B.snd, B.tok, fun x o hx e => sb.2 x hx |>.trans (B.keep x o hx e), ?_⟩))
    refine ⟨_, R'.congr fun j => ?_, ?_⟩
    · by_cases hj : j = k
      · subst hj; simp [hS]
      · simp [hj]
    · simp only [List.length_cons]; split <;> omega
  | false =>
    rw [hS] at hr
    refine wp_if_neg (by rw [hr]; exact Bool.false_ne_true) ?_
    refine wpAny_pure (un _ B.keep (q _ ⟨B.fst, B.snd, B.tok, B.keep, c, Rr.congr fun j => ?_, by simp only [List.length_cons]; omega⟩))
    by_cases hj : j = k
    · subst hj; simp [hS]
    · simp [hj]
theorem inter_loop {a b r : Addr} {id : String} {S S2 : Int → Bool} {n n2 ep : Nat} {Q : PUnit → Shared → Prop} (R : SetR w s.heap a S n) (R2 : SetR w s.heap b S2 n2) (Rr : SetR w s.heap r (fun _ => false) 0) (hra : r ≠ a) (hrb : r ≠ b)
    (hep : ∃ o es t, s.heap.get? b = some o ∧ o.data = .set es ep t ∧ t.fits es.size = true)
    (q : ∀ g d c, SetR w g r (fun k => S k && S2 k) c → c ≤ n2 → (∀ x o, x ≠ r → s.heap.get? x = some o → g.get? x = some o) → Q ⟨⟩ { s with heap := g, drawn := d }) :
    wpAny (model P w) A (do
      let es ← setWalkUnseen b [a, r] (some r)
      forIn es PUnit.unit fun x __s => match x with
        | (h, x) => do
          holding [x] do
            let ok ← setFind a x h
            if ok.isSome = true then do
                let _ ← setAddHashed r x h
                pure ()
              else pure ()
          Builtin.Frozenset.unchanged id b ep
          pure (ForInStep.yield PUnit.unit)
      pure ()) Q E s := by
  refine wpAny_bind (unseen_at R2 R Rr hrb hra fun ys h' d g nd hm hsn Rr' kp hsz => ?_)
  have hlen : ys.size ≤ n2 := Nat.le_of_eq hsn.1
  have hroom : ys.size < scanBound := by rw [hsn.1]; exact hsn.2
  refine wpAny_bind (PySem.MeetsSeq2.wpAny_forIn_array _ (fun rest _ s' => ∃ done, Both w { s with heap := h', drawn := d } s' r S S2 done ∧ (done.reverse ++ rest.map L2.keyOf) = ys.toList.map L2.keyOf ∧ ∀ e ∈ rest, GoodE e) _ ?_ ?_ _ _ ?_)
  · rintro ⟨h, x⟩ rest _ s' ⟨done, B, hl, hg⟩
    obtain ⟨k, tk, e1, e2⟩ := hg _ (List.mem_cons_self ..)
    simp only at e1 e2
    subst e1
    have hk : L2.keyOf (h, Value.int k tk) = k := rfl
    rw [List.map_cons, hk] at hl
    refine inter_step (s0 := { s with heap := h', drawn := d }) (R.at (fun o e => kp a o (Ne.symm hra) e)) (Ne.symm hra) e2 B ?_ ?_ id b ep ?_ (Ne.symm hrb) fun s2 B2 => ⟨k :: done, B2, by simpa using hl, fun e he => hg e (List.mem_cons_of_mem _ he)⟩
    · rw [← hl] at nd
      intro hin
      have := List.nodup_append.mp nd
      exact this.2.2 k (List.mem_reverse.mpr hin) k (List.mem_cons_self ..) rfl
    · have := congrArg List.length hl
      simp at this
      omega
    · obtain ⟨o, es, t, ho, hd, hf⟩ := hep
      exact ⟨o, es, t, kp b o (Ne.symm hrb) ho, hd, hf⟩
  · rintro _ s' ⟨done, B, hl, _⟩
    obtain ⟨c, R', hc⟩ := B.made
    have : s' = { s with heap := s'.heap, drawn := s'.drawn } := by
      cases s'; have := B.fst; have := B.snd; have := B.tok; simp_all
    rw [this]
    refine wpAny_pure (q _ _ c (R'.congr fun k => ?_) ?_ fun x o hx e => B.keep x o hx (kp x o hx e))
    · have hdone : done.reverse = ys.toList.map L2.keyOf := by simpa using hl
      have : (k ∈ done) ↔ S2 k = true := by rw [hm k, ← hdone, List.mem_reverse]
      cases hS : S2 k with
      | true => simp [this.mpr hS]
      | false =>
        have : k ∉ done := fun z => by rw [this.mp z] at hS; cases hS
        simp [this]
    · have := congrArg List.length hl
      simp at this
      omega
  · exact ⟨[], ⟨rfl, rfl, rfl, fun _ _ _ e => e, 0, Rr'.congr fun k => by simp, Nat.le_refl _⟩, by simp, g⟩
/-- an intersection's result, from a new empty set -/
theorem inter {a b : Addr} {id : String} {S S2 : Int → Bool} {n n2 : Nat} {Q : Value → Shared → Prop} (R : SetR w s.heap a S n) (R2 : SetR w s.heap b S2 n2) (hne : b ≠ a)
    (q : ∀ g d r c, SetR w g r (fun k => S k && S2 k) c → c ≤ n + n2 → r = s.heap.objs.size → (∀ x o, s.heap.get? x = some o → g.get? x = some o) → Q (.ref r) { s with heap := g, drawn := d }) :
    wpAny (model P w) A (Builtin.Frozenset.intersection id a (.ref b)) Q E s := by
  have ta := R.setOf (P := P) |>.typeIs
  have tb := R2.setOf (P := P) |>.typeIs
  unfold Builtin.Frozenset.intersection
  refine wp_if_neg (by simpa using hne) ?_
  refine wpAny_bind ?_
  unfold Builtin.Frozenset.baseOf
  refine wpAny_bind (wpAny_isInstance ta sub_set_self ?_)
  refine wpAny_pure ?_
  refine wpAny_bind (PySem.wpAny_newSet_raw fun led hled => ?_)
  subst hled
  have new : SetR w (s.heap.push (set0 w)) s.heap.objs.size (fun _ => false) 0 := setR_fresh w
  have R' : SetR w (s.heap.push (set0 w)) a S n := R.at fun o e => Heap.get?_push_of_some _ e
  have R2' : SetR w (s.heap.push (set0 w)) b S2 n2 := R2.at fun o e => Heap.get?_push_of_some _ e
  have hra : s.heap.objs.size ≠ a := Nat.ne_of_gt R.lt
  have hrb : s.heap.objs.size ≠ b := Nat.ne_of_gt R2.lt
  unfold Builtin.Frozenset.addrOf
  refine wpAny_bind (wpAny_pure ?_)
  refine wpAny_bind (wpAny_holding ?_)
  unfold Builtin.Frozenset.isAnySet
  refine wpAny_bind (wpAny_bind (wpAny_isInstance (s := { s with heap := s.heap.push (set0 w) }) (R2'.setOf (P := P)).typeIs sub_set_self (wpAny_pure ?_)))
  refine wp_if_pos rfl ?_
  refine wpAny_bind (wpAny_pure ?_)
  have size : ∀ {x : Addr} {T : Int → Bool} {m : Nat} {Z : Nat → Shared → Prop}, SetR w (s.heap.push (set0 w)) x T m → Z m { s with heap := s.heap.push (set0 w) } → wpAny (model P w) A (Builtin.Frozenset.sizeOf x) Z E { s with heap := s.heap.push (set0 w) } := by
    intro x T m Z Rx z
    obtain ⟨o, es, ep, t, ho, hx, hd, g, nd, hm, hb, hf, hn, _⟩ := Rx
    unfold Builtin.Frozenset.sizeOf setEntries
    refine wpAny_bind (wpAny_bind (wpAny_setState_of ho hd hf (wpAny_pure (wpAny_pure ?_))))
    rw [hn]; exact z
  have epo : ∀ {x : Addr} {T : Int → Bool} {m : Nat} {Z : Nat → Shared → Prop}, SetR w (s.heap.push (set0 w)) x T m → (∀ ep, (∃ o es t, (s.heap.push (set0 w)).get? x = some o ∧ o.data = .set es ep t ∧ t.fits es.size = true) → Z ep { s with heap := s.heap.push (set0 w) }) → wpAny (model P w) A (setEpoch x) Z E { s with heap := s.heap.push (set0 w) } := by
    intro x T m Z Rx z
    obtain ⟨o, es, ep, t, ho, hx, hd, g, nd, hm, hb, hf, hn, _⟩ := Rx
    unfold setEpoch
    exact wpAny_bind (wpAny_setState_of ho hd hf (wpAny_pure (z ep ⟨o, es, t, ho, hd, hf⟩)))
  refine wpAny_bind (size R2' ?_)
  refine wpAny_bind (size R' ?_)
  have old : ∀ {g : Heap}, (∀ x o, x ≠ s.heap.objs.size → (s.heap.push (set0 w)).get? x = some o → g.get? x = some o) → ∀ x o, s.heap.get? x = some o → g.get? x = some o :=
    fun k x o e => k x o (Nat.ne_of_lt (Heap.lt_size e)) (Heap.get?_push_of_some _ e)
  by_cases hc : n2 > n
  · rw [if_pos hc]
    refine wpAny_bind (epo R' fun ep hep => ?_)
    refine wpAny_mono (inter_loop (s := { s with heap := s.heap.push (set0 w) }) R2' R' new hrb hra hep fun g d c Rg hc' k => ?_) (fun _ _ z => z) (fun _ _ z => z)
    exact wpAny_pure (q g d _ c (Rg.congr fun k => Bool.and_comm _ _) (by omega) rfl (old k))
  · rw [if_neg hc]
    refine wpAny_bind (epo R2' fun ep hep => ?_)
    refine wpAny_mono (inter_loop (s := { s with heap := s.heap.push (set0 w) }) R' R2' new hra hrb hep fun g d c Rg hc' k => ?_) (fun _ _ z => z) (fun _ _ z => z)
    exact wpAny_pure (q g d _ c Rg (by omega) rfl (old k))
end
end DL

set_option Elab.async false
set_option linter.all false
set_option maxRecDepth 100000
namespace DL
open PySem PySem.Spec PyProof.Rows L2
section
variable {P : Program} {w : World} {A : Around} {E : Value → Shared → Prop} {s : Shared}
theorem slot1_at {nm : String} {x y : Value} {Q : Value × Value → Shared → Prop} (q : Q (x, y) s) : wpAny (model P w) A (Builtin.Frozenset.slot1 nm ⟨[x, y], []⟩) Q E s := by
  unfold Builtin.Frozenset.slot1
  wp_walk
  exact q
theorem anySet_at {a : Value} {Q : Bool → Shared → Prop} (ta : s.TypeIs a "set") (q : Q true s) : wpAny (model P w) A (Builtin.Frozenset.isAnySet a) Q E s := by
  unfold Builtin.Frozenset.isAnySet
  exact wpAny_bind (wpAny_isInstance ta sub_set_self (wpAny_pure q))
set_option maxHeartbeats 4000000 in
theorem and_sets {a b : Addr} {S S2 : Int → Bool} {n n2 : Nat} {Q : Value → Shared → Prop} (R : SetR w s.heap a S n) (R2 : SetR w s.heap b S2 n2) (hne : b ≠ a)
    (q : ∀ g d r c, SetR w g r (fun k => S k && S2 k) c → c ≤ n + n2 → r = s.heap.objs.size → (∀ x o, s.heap.get? x = some o → g.get? x = some o) → Q (.ref r) { s with heap := g, drawn := d }) :
    wpAny (model P w) A (binaryOp .BitAnd (.ref a) (.ref b)) Q E s := by
  have ta := R.setOf (P := P) |>.typeIs
  have tb := R2.setOf (P := P) |>.typeIs
  refine wpAny_binaryOp_same (op := .BitAnd) ta tb F.fills_set_and F.slot_set_and ?_
  refine wpAny_call_entry F.slot_set_and ta entry_set_and ?_ (F.args_set_and_2 _ _)
  unfold Builtin.«frozenset.__and__»
  refine wpAny_bind (slot1_at ?_)
  refine wpAny_bind (wpAny_bind (anySet_at ta (anySet_at tb ?_)))
  refine wp_if_neg (by simp) ?_
  unfold Builtin.Frozenset.addrOf
  refine wpAny_bind (wpAny_pure ?_)
  refine wpAny_bind (inter R R2 hne fun g d r c h1 h2 h3 h4 => ?_)
  exact wpAny_pure ⟨_, rfl, by simp, q g d r c h1 h2 h3 h4⟩
end
section
variable {X : Cx}
def rAnd (w : World) : R2 := fun x y H Q => ∃ (a b : Addr) (S S2 : Int → Bool) (n n2 : Nat), x = .ref a ∧ y = .ref b ∧ b ≠ a ∧ H a = some (SetO w a S n) ∧ H b = some (SetO w b S2 n2) ∧
  ∀ (p : Addr) (c : Nat), c ≤ n + n2 → H p = none → Q (.ref p) (upd H p (SetO w p (fun k => S k && S2 k) c))
theorem op_and : OpR X (binaryOp .BitAnd) (rAnd X.w) := by
  intro pins s σ H x y v u Q I rx ry h
  obtain ⟨a, b, S, S2, n, n2, rfl, rfl, hne, ha, hb, q⟩ := h
  cases rx
  cases ry
  refine and_sets (setO_get I ha) (setO_get I hb) hne fun g d r c h1 h2 h3 h4 => ?_
  subst h3
  have hn : H s.heap.objs.size = none := I.hok.fresh (Nat.le_refl _)
  have J : Inv X pins σ (upd H s.heap.objs.size (SetO X.w s.heap.objs.size (fun k => S k && S2 k) c)) { s with heap := g, gens := s.gens, drawn := d, toks := s.toks } :=
    I.call (ch := []) (Un.laid h4 (Nat.le_refl _) hn) (I.hok.laid h4 (Nat.le_refl _) (setO_new h1)) I.bare (fun _ z => nomatch z)
  exact ⟨.ref s.heap.objs.size, _, J, rfl, q _ c h2 hn⟩
def intsD : D → Option (List Int)
  | .lst ds => intsOf ds
  | .tup ds => intsOf ds
  | _ => none
theorem intsD_lst (ns : List Int) : intsD (.lst (ns.map .int)) = some ns := intsOf_map ns
theorem intsD_tup (ns : List Int) : intsD (.tup (ns.map .int)) = some ns := intsOf_map ns
/-- sorted(set(a) & set(b)), of ints -/
@[simp] def nSA (m m2 : EM D) : EM (List D) := fun ρ g Q E => m ρ g (fun x g1 => match intsD x with
  | some ns => ns.length < 32 ∧ m2 ρ g1 (fun y g2 => match intsD y with
    | some ms => ms.length < 32 ∧ ∀ ks : List Int, ks.Pairwise (· < ·) → (∀ k, k ∈ ks ↔ k ∈ ns ∧ k ∈ ms) → Q (ks.map .int) g2
    | none => False) E
  | none => False) E
theorem intsD_in {K : PySem.W.Frag} {F H : Hp} {v : V} {d : D} {ns : List Int} (hF : Same F H) (h : intsD d = some ns) (r : Rep K F v d) : ∃ a, v = .ref a ∧ (SqL K H a (ns.map V.int) ∨ SqT K H a (ns.map V.int)) := by
  cases d with
  | lst ds =>
    rw [show intsD (.lst ds) = intsOf ds from rfl] at h
    rw [intsOf_eq h] at r
    cases r with
    | lst hs hr => exact ⟨_, rfl, by rw [← hr.ints]; exact .inl (hF.seq hs)⟩
  | tup ds =>
    rw [show intsD (.tup ds) = intsOf ds from rfl] at h
    rw [intsOf_eq h] at r
    cases r with
    | tup hs hr => exact ⟨_, rfl, by rw [← hr.ints]; exact .inr (same_sqT hF hs.sqT)⟩
  | _ => simp [intsD] at h
theorem en_sortand {e f : Expr} {m m2 : EM D} {p p2 p3 pos pos2 pos3 pos4 : Pos} (hc : X.calm = true) (hg : Gl X "sorted") (hm : X.mg "sorted" = none) (hg2 : Gl X "set") (hm2 : X.mg "set" = none) (ha : EV X e m) (hb : EV X f m2)
    (e1 : starEach [e] X.env = (false, eval e X.env) :: starEach [] X.env := by rfl) (e2 : (backTo pos2 (starEach [] X.env)).any (·.1) = false := by rfl)
    (f1 : starEach [f] X.env = (false, eval f X.env) :: starEach [] X.env := by rfl) (f2 : (backTo pos3 (starEach [] X.env)).any (·.1) = false := by rfl)
    (e3 : starEach [Expr.BinOp (.Call (.Name "set" p2) [e] [] pos2) .BitAnd (.Call (.Name "set" p3) [f] [] pos3) pos4] X.env = (false, eval (Expr.BinOp (.Call (.Name "set" p2) [e] [] pos2) .BitAnd (.Call (.Name "set" p3) [f] [] pos3) pos4) X.env) :: starEach [] X.env := by rfl) (e4 : (backTo pos (starEach [] X.env)).any (·.1) = false := by rfl) :
    EN X (.Call (.Name "sorted" p) [.BinOp (.Call (.Name "set" p2) [e] [] pos2) .BitAnd (.Call (.Name "set" p3) [f] [] pos3) pos4] [] pos) (nSA m m2) := by
  intro B W hB L
  refine pe_mono (pe_callB (cr_sortedSet hc) hg hm PyProof.Rows.boot_sorted (pa_cons (pe_op op_and (pe_callTy (cr_setL hc) hg2 hm2 (by decide +kernel) (pa_cons (ha B W hB L) pa_nil e1) (by decide) (by decide) e1 e2) (pe_callTy (cr_setL hc) hg2 hm2 (by decide +kernel) (pa_cons (hb B W hB L) pa_nil f1) (by decide) (by decide) f1 f2)) pa_nil e3) (by decide) (by decide) e3 e4) ?_
  rintro σ H Q ⟨F, ρ, g, QD, R, w, q⟩
  refine ⟨F, ρ, g, _, R, w, ?_⟩
  intro v1 H1 F1 g1 d1 k1 R1 r1 w1
  cases hb1 : intsD d1 with
  | none => simp only [hb1] at w1
  | some ns =>
    simp only [hb1] at w1
    obtain ⟨l1, w1⟩ := w1
    rw [hB] at r1
    obtain ⟨a1, rfl, hs1⟩ := intsD_in R1.fh hb1 r1
    have sb : (64 : Nat) < scanBound := by decide
    refine ⟨a1, ns, rfl, hs1, by omega, fun p c hc2 hp => ?_⟩
    have G1 := Gro.lay0 (o := SetO X.w p (fun j => decide (j ∈ ns)) c) R1.fh hp
    have R2 := R1.gro G1
    refine ⟨F1, ρ, g1, _, R2, w1, ?_⟩
    intro v2 H2 F2 g2 d2 k2 R3 r2 w2
    cases hb2 : intsD d2 with
    | none => simp only [hb2] at w2
    | some ms =>
      simp only [hb2] at w2
      obtain ⟨l2, w2⟩ := w2
      rw [hB] at r2
      obtain ⟨a2, rfl, hs2⟩ := intsD_in R3.fh hb2 r2
      refine ⟨a2, ms, rfl, hs2, by omega, fun p2 c2 hc3 hp2 => ?_⟩
      have hpp : H2 p = some (SetO X.w p (fun j => decide (j ∈ ns)) c) := (k2.kp p _ upd_same (R1.fresh_g hp)).1
      have hne : p2 ≠ p := fun z => by rw [z, hpp] at hp2; cases hp2
      have G2 := Gro.lay0 (o := SetO X.w p2 (fun j => decide (j ∈ ms)) c2) R3.fh hp2
      have R4 := R3.gro G2
      refine ⟨p, p2, _, _, c, c2, rfl, rfl, hne, (upd_ne (Ne.symm hne)).trans hpp, upd_same, fun p3 c3 hc4 hp3 => ?_⟩
      have G3 := Gro.lay0 (o := SetO X.w p3 (fun k => decide (k ∈ ns) && decide (k ∈ ms)) c3) R4.fh hp3
      have R5 := R4.gro G3
      refine ⟨p3, _, c3, rfl, upd_same, by omega, fun ks p4 h1 h2 h3 hp4 => ?_⟩
      have G4 := Gro.lay0 (o := .lst (ks.map V.int)) R5.fh hp4
      have k3 := ((((k1.trans G1.ste).trans k2).trans G2.ste).trans G3.ste)
      exact q p4 _ _ F2 g2 _ (k3.trans G4.ste) (R5.gro G4) (k3.none hp4) upd_same (R5.fh.free hp4) (R5.fresh_g hp4) (R5.fresh_0 hp4) (R5.fresh_s hp4) (RepL.of_ints ks) (w2 ks h1 fun k => by rw [h2 k]; simp)
end
end DL

set_option Elab.async false
set_option linter.all false
set_option maxRecDepth 100000
namespace DL
open PySem PySem.Spec PyProof.Rows L2
/-! ### sorted, of tuples of ints (any lengths above 0) -/
section
variable {P : Program} {w : World} {A : Around} {E : Value → Shared → Prop} {s : Shared}
theorem lex_kat {fin : Bool} {Q : Bool → Shared → Prop} : ∀ {us ws : List Value} {ns ms : List Int} (i : Nat), IntsAre us ns → IntsAre ws ms → fin = decide (ns.length < ms.length) → Q (HT.lexLt ns ms) s →
    PySem.W.KatLex P w A true fin Q (us.zip ws) i s
  | _, _, _, _, i, .nil, .nil, hf, q => by
    rw [hf]; exact PySem.W.kat_nil q
  | _, _, _, _, i, .nil, .cons a t r, hf, q => by
    rw [hf]; exact PySem.W.kat_nil q
  | _, _, _, _, i, .cons a t r, .nil, hf, q => by
    rw [hf]; exact PySem.W.kat_nil q
  | _, _, _, _, i, .cons (ns := ns) a t r, .cons (ns := ms) b u r2, hf, q => by
    rw [List.zip_cons_cons]
    refine PySem.W.kat_cons (SeqAt.EqAt.int_int a t b u P w _ _ ?_)
    rw [HT.lexLt_cons] at q
    refine PySem.W.kat_go (fun e1 => ?_) (fun e1 => ?_)
    · have ex : a = b := by simpa using e1
      rw [if_pos ex] at q
      exact PySem.W.kat_yes (lex_kat (i + 1) r r2 (by rw [hf]; simp) q)
    · have ex : ¬ a = b := by simpa using e1
      rw [if_neg ex] at q
      refine PySem.W.kat_no ?_
      cases h : (true && i == 0) with
      | true => exact oneLt_int q
      | false => exact PySem.W.kat_one _ _ (PyProof.Rows.lt_int q)
theorem tups_cmp {vs : List Value} {k : Value → List Int} (hp : ∀ v ∈ vs, TS.TupInts s.heap v (k v)) : SrtO.Cmp P w A s (tuples' true) (fun p => p.1 ∈ vs) (SrtO.lt2 fun v u => HT.lexLt (k v) (k u)) := by
  intro p q hm hm'
  have h1 := hp _ hm
  have h2 := hp _ hm'
  show wpAny (model P w) A (keyLt' (tuples' true) p.1 q.1) (fun r s' => s' = s ∧ r = HT.lexLt (k p.1) (k q.1)) (fun _ _ => False) s
  obtain ⟨a, xs, e, ⟨o, ho, hc, n, hd⟩, hi⟩ := h1
  obtain ⟨b, ys, e', ⟨o', ho', hc', n', hd'⟩, hi'⟩ := h2
  rw [e, e'] at *
  refine PySem.W.kat_lt ho hd ho' hd' ?_
  exact lex_kat 0 hi hi' (by rw [← hi.length, ← hi'.length]; simp) ⟨rfl, rfl⟩
theorem tup_firsts {h : Heap} {k : Value → List Int} : ∀ {vs : List Value}, (∀ v ∈ vs, TS.TupInts h v (k v) ∧ k v ≠ []) → ∃ fs, PySem.W.KatTups h vs fs ∧ fs.length = vs.length ∧ ∀ f ∈ fs, ∃ x t, f = Value.int x t
  | [], _ => ⟨[], PySem.W.KatTups.nil, rfl, fun _ z => by cases z⟩
  | v :: vs, hv => by
    obtain ⟨fs, h1, h2, h3⟩ := tup_firsts fun u hu => hv u (List.mem_cons_of_mem _ hu)
    obtain ⟨⟨a, xs, rfl, ⟨o, ho, hc, n, hd⟩, hi⟩, hne⟩ := hv v (List.mem_cons_self ..)
    generalize k (Value.ref a) = ns at hi hne
    cases hxs : xs.toList with
    | nil =>
      rw [hxs] at hi
      cases hi
      exact absurd rfl hne
    | cons f r =>
      rw [hxs] at hi
      have hf : xs[0]? = some f := by rw [← Array.getElem?_toList, hxs]; rfl
      refine ⟨f :: fs, PySem.W.KatTups.cons ho hc hd hf h1, by rw [List.length_cons, List.length_cons, h2], ?_⟩
      intro g hg
      rcases List.mem_cons.mp hg with rfl | hg
      · cases hi with
        | cons x t _ => exact ⟨x, t, rfl⟩
      · exact h3 g hg
theorem tups_sortable {a : Addr} {vs : List Value} {k : Value → List Int} (h0 : 0 < vs.length) (hp : ∀ v ∈ vs, TS.TupInts s.heap v (k v) ∧ k v ≠ []) (ha : ∀ o, s.heap.get? a = some o → o.cls ≠ .type "tuple") : SrtO.SortableO P w A s a vs fun v u => HT.lexLt (k v) (k u) := by
  intro h' keep
  have hp' : ∀ v ∈ vs, TS.TupInts h' v (k v) ∧ k v ≠ [] := fun v hm => ⟨(hp v hm).1.keeps fun b o e c => keep b o (fun z => by subst z; exact ha o e c) e, (hp v hm).2⟩
  obtain ⟨fs, h1, h2, h3⟩ := tup_firsts hp'
  refine ⟨tuples' true, fun Q E hq => ?_, tups_cmp fun v hm => (hp' v hm).1⟩
  refine PySem.W.kat_kind (T := .type "int") h1 (by omega) (fun f hm => ?_) (by rfl) ?_
  · obtain ⟨x, t, rfl⟩ := h3 f hm
    exact PySem.W.Looks.now
  · have e : (Value.type "int" != Value.type "tuple") = true := by first | decide +kernel | rfl | decide
    rw [e]
    exact hq
end
section
variable {X : Cx}
/-- sorted(xs), xs a list of tuples of ints that are not empty -/
def rSortL (K : PySem.W.Frag) : List V → Hp → VK → Prop := fun vs H Q => ∃ (a : Addr) (xs : List V), vs = [V.ref a] ∧ SqL K H a xs ∧ (∀ x ∈ xs, ∃ ns, TupI K H x ns ∧ ns ≠ []) ∧
  ∀ (ys : List V) (p : Addr), ys.Perm xs → ys.Pairwise (fun x y => ∀ n m, TupI K H x n → TupI K H y m → HT.lexLt m n = false) → H p = none → Q (.ref p) (upd H p (.lst ys))
theorem cr_sortL : CallR X (.builtin "sorted") (rSortL X.K) := by
  intro pins s σ H vs us Q I r h
  obtain ⟨a, xs, rfl, hs, hx, q⟩ := h
  obtain ⟨its, rv, hl, hz⟩ := I.list hs
  rw [Vals.ref1 r]
  obtain ⟨e1, e2⟩ := bkV_refs rv fun x m => by
    obtain ⟨ns, ⟨t, e, _⟩, _⟩ := hx x m
    exact ⟨t, e⟩
  have tups : ∀ v ∈ its, TS.TupInts s.heap v (TS.intsOf s.heap v) ∧ TS.intsOf s.heap v ≠ [] := fun v hv => by
    obtain ⟨t, rfl⟩ := e2 v hv
    have hm : V.ref t ∈ xs := by
      rw [e1]
      exact List.mem_map.mpr ⟨_, hv, rfl⟩
    obtain ⟨ns, ⟨t', e, ht⟩, hn⟩ := hx _ hm
    cases e
    have z := tupI_raw I ht
    rw [z.ints]
    exact ⟨z, hn⟩
  refine SrtO.sorted_ord (NtL.swo_lexL fun v => TS.intsOf s.heap v) hl.isList (by rw [← rv.length]; exact hz) (fun h2 h₁ a ha kk => ?_) fun out hso hb => ?_
  · refine tups_sortable (s := { s with heap := h₁ }) (by omega) (fun v hm => ⟨(tups v hm).1.keeps fun b o e _ => (kk b o e).2, (tups v hm).2⟩) fun o e => ?_
    have e' : some o = some (seqObj "list" its.toArray 0) := e.symm.trans ha
    cases e'
    intro c
    exact absurd (Value.type.inj c) (by decide)
  · obtain ⟨ep, he'⟩ := PyProof.Rows.sortedAll_at s.heap its out.toArray
    have h3 : ∀ u ∈ out, ∃ a, u = Value.ref a := fun u hu => e2 u (hb.perm.mem_iff.mp hu)
    have hp : (out.map bkV).Perm xs := by
      rw [e1]
      exact hb.perm.map bkV
    have hlen : (out.map bkV).length ≤ sizeLine := by
      rw [hp.length_eq]
      exact hz
    refine ⟨.ref _, upd H (s.heap.objs.size + 1) (.lst (out.map bkV)), I.laid (t' := s.toks) (fun _ _ => PyProof.Rows.sortedAll_old) (Nat.le_succ _) ⟨hlen, out, ep, bkV_vals h3, he'⟩, rfl, q _ _ hp ?_ (I.hok.fresh (Nat.le_succ _))⟩
    rw [List.pairwise_map]
    refine List.Pairwise.imp (fun {u v} huv n m hn hm => ?_) hso
    obtain ⟨t, et, ht⟩ := hn
    obtain ⟨t', et', ht'⟩ := hm
    have eu := bkV_ref et
    have ev := bkV_ref et'
    have i1 : TS.intsOf s.heap u = n := by
      rw [eu]
      exact (tupI_raw I ht).ints
    have i2 : TS.intsOf s.heap v = m := by
      rw [ev]
      exact (tupI_raw I ht').ints
    rw [← i1, ← i2]
    exact huv
end
end DL

set_option Elab.async false
set_option linter.all false
set_option maxRecDepth 100000
namespace DL
open PySem PySem.Spec PyProof.Rows L2
/-! ### the order of int tuples -/
def lexLe (a b : List Int) : Prop := HT.lexLt b a = false
theorem lex_anti : ∀ {xs ys : List Int}, lexLe xs ys → lexLe ys xs → xs = ys
  | [], [], _, _ => rfl
  | [], y :: ys, _, h => by unfold lexLe at h; rw [HT.lexLt_nil_cons] at h; cases h
  | x :: xs, [], h, _ => by unfold lexLe at h; rw [HT.lexLt_nil_cons] at h; cases h
  | x :: xs, y :: ys, h1, h2 => by
    unfold lexLe at h1 h2
    rw [HT.lexLt_cons] at h1 h2
    by_cases e : x = y
    · rw [if_pos e.symm] at h1
      rw [if_pos e] at h2
      rw [e, lex_anti (xs := xs) (ys := ys) h1 h2]
    · rw [if_neg (Ne.symm e)] at h1
      rw [if_neg e] at h2
      have := of_decide_eq_false h1
      have := of_decide_eq_false h2
      omega
def sortL (nss : List (List Int)) : List (List Int) := nss.mergeSort fun a b => !HT.lexLt b a
theorem sortL_perm (nss : List (List Int)) : (sortL nss).Perm nss := List.mergeSort_perm nss _
theorem sortL_le (nss : List (List Int)) : (sortL nss).Pairwise lexLe := by
  have h := List.pairwise_mergeSort (le := fun (a b : List Int) => !HT.lexLt b a) (fun a b c h1 h2 => by
      simp only [Bool.not_eq_true'] at *
      exact NtL.lex_tr _ _ _ h1 h2) (fun a b => by
      cases h : HT.lexLt b a with
      | false => simp
      | true => simp [NtL.lex_asym _ _ h]) nss
  exact h.imp fun h => by unfold lexLe; simpa using h
theorem sortL_of {ns ms : List (List Int)} (h1 : ms.Perm ns) (h2 : ms.Pairwise lexLe) : ms = sortL ns :=
  (h1.trans (sortL_perm ns).symm).eq_of_pairwise (fun a b _ _ x y => lex_anti x y) h2 (sortL_le ns)
/-! ### lists of int tuples -/
abbrev tupI (ns : List Int) : D := .tup (ns.map .int)
def tupsOf : List D → Option (List (List Int))
  | [] => some []
  | .tup es :: ds => match intsOf es with
    | some ns => (tupsOf ds).map (ns :: ·)
    | none => none
  | _ => none
theorem tupsOf_eq : ∀ {ds : List D} {ns : List (List Int)}, tupsOf ds = some ns → ds = ns.map tupI
  | [], bs, h => by cases h; rfl
  | d :: ds, bs, h => by
    cases d <;> simp only [tupsOf] at h <;> try (cases h; done)
    rename_i es
    cases q : intsOf es with
    | none => rw [q] at h; cases h
    | some ns =>
      rw [q] at h
      cases q2 : tupsOf ds with
      | none => rw [q2] at h; cases h
      | some cs =>
        rw [q2] at h
        cases h
        rw [tupsOf_eq q2, intsOf_eq q]; rfl
theorem tupsOf_map (nss : List (List Int)) : tupsOf (nss.map tupI) = some nss := by
  induction nss with
  | nil => rfl
  | cons n ns ih => simp [tupsOf, ih, tupI, intsOf_map]
theorem RepL.perm {K : PySem.W.Frag} {F : Hp} {α : Type} (f : α → D) {ys xs : List V} (p : ys.Perm xs) : ∀ {as : List α}, RepL K F xs (as.map f) → ∃ bs : List α, bs.Perm as ∧ RepL K F ys (bs.map f) := by
  induction p with
  | nil => intro as h; exact ⟨as, List.Perm.refl _, h⟩
  | cons x _ ih =>
    intro as h
    cases as with
    | nil => cases h
    | cons a as =>
      cases h with
      | cons r t =>
        obtain ⟨es, p, h⟩ := ih t
        exact ⟨a :: es, p.cons _, .cons r h⟩
  | swap x y l =>
    intro as h
    match as, h with
    | a :: b :: as, .cons r (.cons r2 t) => exact ⟨b :: a :: as, List.Perm.swap .., .cons r2 (.cons r t)⟩
  | trans _ _ ih1 ih2 =>
    intro as h
    obtain ⟨es, p, h⟩ := ih2 h
    obtain ⟨es2, p2, h2⟩ := ih1 h
    exact ⟨es2, p2.trans p, h2⟩
theorem Rep.tupI {K : PySem.W.Frag} {F H : Hp} (hF : Same F H) {x : V} {ns : List Int} (r : Rep K F x (DL.tupI ns)) : TupI K H x ns := by
  cases r with
  | tup hs hr => exact ⟨_, rfl, by rw [← hr.ints]; exact same_sqT hF hs.sqT⟩
theorem RepL.tupI_mem {K : PySem.W.Frag} {F H : Hp} (hF : Same F H) : ∀ {xs : List V} {nss : List (List Int)}, RepL K F xs (nss.map DL.tupI) → ∀ x ∈ xs, ∃ ns ∈ nss, TupI K H x ns
  | _, [], h, x, hx => by cases h; cases hx
  | _, n :: ns, .cons r t, x, hx => by
    rcases List.mem_cons.mp hx with rfl | hx
    · exact ⟨n, List.mem_cons_self .., r.tupI hF⟩
    · obtain ⟨m, hm, h⟩ := RepL.tupI_mem hF t x hx
      exact ⟨m, List.mem_cons_of_mem _ hm, h⟩
theorem RepL.tupI_at {K : PySem.W.Frag} {F H : Hp} (hF : Same F H) : ∀ {xs : List V} {nss : List (List Int)}, RepL K F xs (nss.map DL.tupI) → ∀ ns ∈ nss, ∃ x ∈ xs, TupI K H x ns
  | _, [], h, x, hx => by cases hx
  | _, n :: ns, .cons r t, x, hx => by
    rcases List.mem_cons.mp hx with rfl | hx
    · exact ⟨_, List.mem_cons_self .., r.tupI hF⟩
    · obtain ⟨m, hm, h⟩ := RepL.tupI_at hF t x hx
      exact ⟨m, List.mem_cons_of_mem _ hm, h⟩
theorem RepL.lex {K : PySem.W.Frag} {F H : Hp} (hF : Same F H) : ∀ {xs : List V} {nss : List (List Int)}, RepL K F xs (nss.map DL.tupI) → xs.Pairwise (fun x y => ∀ n m, TupI K H x n → TupI K H y m → HT.lexLt m n = false) → nss.Pairwise lexLe
  | _, [], h, _ => List.Pairwise.nil
  | _, n :: ns, .cons r t, h => by
    obtain ⟨h1, h2⟩ := List.pairwise_cons.mp h
    refine List.pairwise_cons.mpr ⟨fun m hm => ?_, RepL.lex hF t h2⟩
    obtain ⟨x, hx, tx⟩ := RepL.tupI_at hF t m hm
    exact h1 x hx n m (r.tupI hF) tx
section
variable {X : Cx}
@[simp] def sortedD : List D → Option (List D)
  | [.lst ds] => match intsOf ds with
    | some ns => some ((sortI ns).map D.int)
    | none => match tupsOf ds with
      | some nss => if nss.all (fun ns => !ns.isEmpty) then some ((sortL nss).map tupI) else none
      | none => none
  | _ => none
theorem cn_sortedL : CN X (.builtin "sorted") (fun xs => match xs with
    | [.lst ds] => match tupsOf ds with
      | some nss => if nss.all (fun ns => !ns.isEmpty) then some ((sortL nss).map tupI) else none
      | none => none
    | _ => none) := by
  refine cn_of cr_sortL fun F H xs ds dz Q hF hx hf q => ?_
  split at hf
  · rename_i es
    cases hb : tupsOf es with
    | none => simp only [hb] at hf; cases hf
    | some nss =>
      simp only [hb] at hf
      split at hf
      · rename_i hne
        cases hf
        obtain ⟨v, rfl, r⟩ := hx.one_inv
        cases r with
        | lst hs hr =>
          rw [tupsOf_eq hb] at hr
          refine ⟨_, _, rfl, hF.seq hs, fun x hx => ?_, fun ys p h1 h2 hp => ?_⟩
          · obtain ⟨ns, hn, ht⟩ := hr.tupI_mem hF x hx
            refine ⟨ns, ht, ?_⟩
            have := List.all_eq_true.mp hne ns hn
            simpa using this
          · refine q p _ F H (Gro.refl hF) hp ?_ (hF.free hp) hp
            obtain ⟨mss, pm, hr2⟩ := RepL.perm DL.tupI h1 hr
            rw [← sortL_of pm (hr2.lex hF h2)]
            exact hr2
      · cases hf
  · cases hf
theorem cn_sortedD : CN X (.builtin "sorted") sortedD := by
  intro pins s σ H F xs us ds dz Q I hF rx hx hf q
  unfold sortedD at hf
  split at hf
  · rename_i es
    cases hb : intsOf es with
    | some ns =>
      simp only [hb] at hf
      exact cn_sortedI pins s σ H F xs us _ dz Q I hF rx hx (by simp only [sortedI, hb, Option.map_some]; exact hf) q
    | none =>
      simp only [hb] at hf
      exact cn_sortedL pins s σ H F xs us _ dz Q I hF rx hx hf q
  · cases hf
end
end DL

set_option Elab.async false
set_option linter.all false
set_option maxRecDepth 100000
namespace DL
open PySem PySem.Spec PyProof.Rows L2
/-! ### dicts that change: tracked objects with plain values -/
def atomD : D → Bool
  | .non => true
  | .bl _ => true
  | .int _ => true
  | .str _ => true
  | _ => false
@[simp] theorem atomD_non : atomD .non = true := rfl
@[simp] theorem atomD_bl (b : Bool) : atomD (.bl b) = true := rfl
@[simp] theorem atomD_int (b : Int) : atomD (.int b) = true := rfl
@[simp] theorem atomD_str (b : Str) : atomD (.str b) = true := rfl
theorem atom_rep {K : PySem.W.Frag} {F : Hp} {v : V} {d : D} (h : atomD d = true) (r : Rep K F v d) : ∀ K' F', Rep K' F' v d := by
  cases r <;> first | exact fun _ _ => .non | exact fun _ _ => .bl _ | exact fun _ _ => .int _ | exact fun _ _ => .str _ | cases h
section
variable {B : Bs} {F : Hp} {ρ : Rho} {g : G} {σ : L2.St} {H : Hp}
theorem RepO.mono2 {g g' : G} {K : PySem.W.Frag} {F F' H H' : Hp} {a : Addr} {o : O} (ff : Same F F') (k1 : ∀ u, H a = some u → H' a = some u) (k2 : ∀ b c, g b = some (.aux c) → ∀ u, H b = some u → H' b = some u) (kg : ∀ b c, g b = some (.aux c) → g' b = some (.aux c))
    (h : RepO g K F H a o) : RepO g' K F' H' a o := by
  cases o with
  | dice =>
    obtain ⟨x, y, z, h1⟩ := h
    exact ⟨x, y, z, k1 _ h1⟩
  | dct kds =>
    obtain ⟨kvs, h1, h2⟩ := h
    exact ⟨kvs, k1 _ h1, h2⟩
  | ins C dx fs =>
    obtain ⟨h1, vs, s1, h3⟩ := h
    exact ⟨kg _ _ h1, vs, s1.imp (fun z => ⟨k1 _ z.1, z.2⟩) fun z => ⟨k1 _ z.1, k2 _ _ h1 _ z.2⟩, h3.mono fun _ _ _ r => r.mono ff⟩
  | aux c =>
    exact h.imp (fun ⟨x, z⟩ => ⟨x, k1 _ z⟩) fun z => k1 _ z
  | tab q =>
    obtain ⟨ps, h1, h2, h3⟩ := h
    refine ⟨ps, k1 _ h1, h2, fun pos cv hc => ?_⟩
    obtain ⟨c, e1, e2⟩ := h3 pos cv hc
    exact ⟨c, e1, ff _ _ e2⟩
/-- a tracked object is written -/
theorem Rl.trk (R : Rl B F ρ g σ H) {a : Addr} {o0 o : O} {u : HO} (hg : g a = some o0) (hx : ∀ c, o0 ≠ .aux c) (new : RepO (gset g a o) B.K F (upd H a u) a o) : Rl B F ρ (gset g a o) σ (upd H a u) := by
  obtain ⟨h1, h2, h3⟩ := R.gg a _ hg
  refine ⟨fun b o e => by rw [upd_ne (ne_of_none e h2)]; exact R.fh b o e, R.f0, R.fn, fun b o e => ?_, fun b o e n => ?_, fun b o e => ?_, fun i s e => ?_, R.dj, R.ln⟩
  · by_cases hb : b = a
    · subst hb; exact ⟨_, upd_same⟩
    · rw [upd_ne hb]; exact R.dm b o e
  · rw [upd_ne (fun q => by
      subst q
      rcases h3 with ⟨o', q⟩ | q
      · rw [n] at q; cases q
      · rw [e] at q; cases q)]
    exact R.fr b o e n
  · by_cases hb : b = a
    · subst hb
      rw [gset_same] at e
      cases e
      exact ⟨new, h2, h3⟩
    · rw [gset_ne hb] at e
      obtain ⟨q1, q2, q3⟩ := R.gg b o e
      exact ⟨q1.mono2 (Same.refl F) (fun w q => by rw [upd_ne hb]; exact q) (fun c x gc w q => by rw [upd_ne (fun z => by subst z; rw [hg] at gc; exact hx x (Option.some.inj gc))]; exact q) (fun c x gc => by rw [gset_ne (fun z => by subst z; rw [hg] at gc; exact hx x (Option.some.inj gc))]; exact gc), q2, q3⟩
  · have h := R.sl i s e
    cases s with
    | no => trivial
    | val d => exact h
    | acc ds =>
      obtain ⟨p, xs, e1, f1, f2, f3, f4, f5⟩ := h
      have hpa : p ≠ a := fun q => by subst q; rw [hg] at f4; cases f4
      exact ⟨p, xs, e1, by rw [upd_ne hpa]; exact f1, f2, f3, by rw [gset_ne hpa]; exact f4, f5⟩
/-- a new object is tracked -/
theorem Rl.trk0 (R : Rl B F ρ g σ H) {a : Addr} {o : O} {u : HO} (hp : H a = none) (new : RepO (gset g a o) B.K F (upd H a u) a o) : Rl B F ρ (gset g a o) σ (upd H a u) := by
  have R' := R.gro (Gro.lay0 (o := u) R.fh hp)
  have hg := R.fresh_g hp
  refine ⟨R'.fh, R'.f0, R'.fn, R'.dm, R'.fr, fun b o e => ?_, fun i s e => ?_, R'.dj, R'.ln⟩
  · by_cases hb : b = a
    · subst hb
      rw [gset_same] at e
      cases e
      exact ⟨new, R.fh.free hp, .inr (R.fresh_0 hp)⟩
    · rw [gset_ne hb] at e
      obtain ⟨q1, q2, q3⟩ := R'.gg b o e
      exact ⟨q1.mono2 (Same.refl F) (fun _ q => q) (fun _ _ _ _ q => q) (fun c x gc => by rw [gset_ne (fun z => by subst z; rw [hg] at gc; cases gc)]; exact gc), q2, q3⟩
  · have h := R'.sl i s e
    cases s with
    | no => trivial
    | val d => exact h
    | acc ds =>
      obtain ⟨p, xs, e1, f1, f2, f3, f4, f5⟩ := h
      have hpa : p ≠ a := fun q => by
        subst q
        obtain ⟨p2, xs2, z1, z2, _⟩ := R.sl i _ e
        rw [e1] at z1
        cases z1
        rw [hp] at z2; cases z2
      exact ⟨p, xs, e1, f1, f2, f3, by rw [gset_ne hpa]; exact f4, f5⟩
theorem ste_trk0 {a : Addr} {o : O} {u : HO} (hp : H a = Option.none) : Ste g H F (gset g a o) (upd H a u) F := by
  refine ⟨fun _ _ e => e, fun b x e n => ?_, fun b x e => ⟨x, by rw [upd_ne (ne_of_none e hp)]; exact e⟩, fun _ _ e => .inl e⟩
  have hb := ne_of_none e hp
  exact ⟨by rw [upd_ne hb]; exact e, by rw [gset_ne hb]; exact n⟩
theorem RepO.dct_inv {K0 : PySem.W.Frag} {F0 : Hp} {a : Addr} {kds : List (Key × D)} (h : RepO g K0 F0 H a (.dct kds)) : ∃ kvs, H a = some (.dK kvs) ∧ (kds.map (·.1)).Nodup ∧ ∀ K F, RepK K F kvs kds := by
  obtain ⟨kvs, h1, h2, h3, h4⟩ := h
  refine ⟨kvs, h1, h3, fun K F => ?_⟩
  have := RepK.of (K := K) (F := F) h2 (h4 K F)
  rwa [zip_mf] at this
theorem RepO.dct (B : Bs) (F : Hp) {a : Addr} {kvs : List (Key × V)} {kds : List (Key × D)} (h1 : H a = some (.dK kvs)) (h3 : (kds.map (·.1)).Nodup) (h4 : ∀ K F, RepK K F kvs kds) : RepO g B.K F H a (.dct kds) :=
  ⟨kvs, h1, (h4 B.K F).keys, h3, fun K F => (h4 K F).vals⟩
theorem ste_trk {a : Addr} {o0 o : O} {u : HO} (hg : g a = some o0) : Ste g H F (gset g a o) (upd H a u) F := by
  refine ⟨fun _ _ e => e, fun b x e n => ?_, fun b x e => ?_, fun _ _ e => .inl e⟩
  · have hb : b ≠ a := fun z => by subst z; rw [hg] at n; cases n
    exact ⟨by rw [upd_ne hb]; exact e, by rw [gset_ne hb]; exact n⟩
  · by_cases hb : b = a
    · subst hb; exact ⟨_, upd_same⟩
    · exact ⟨x, by rw [upd_ne hb]; exact e⟩
end
section
variable {X : Cx} {e f o value : Expr} {md mk mx mv m : EM D} {pos pos' apos cpos tpos : Pos}
/-- {} that will change -/
@[simp] def eDnew : EM D := fun _ g Q _ => ∀ a, g a = none → Q (.ref a) (gset g a (.dct []))
theorem ev_dnew : EV X (.Dict [] [] pos) eDnew := by
  intro B W hB L
  refine pe_mono pe_dnewK ?_
  rintro σ H Q ⟨F, ρ, g, QD, R, w, q⟩
  intro p hp
  exact q (.ref p) _ F (gset g p (.dct [])) (.ref p) (ste_trk0 hp) (R.trk0 hp (RepO.dct B F upd_same (by simp) fun _ _ => .nil)) (.ref p) (w p (R.fresh_g hp))
/-- d.get(k, x) of a dict that changes -/
@[simp] def eTGet (md mk mx : EM D) : EM D := fun ρ g Q E => md ρ g (fun x g1 => (∃ a kds, x = .ref a ∧ g1 a = some (.dct kds)) ∧ mk ρ g1 (fun y g2 => mx ρ g2 (fun z g3 => match x, keyOf y with
  | .ref a, some k => ∃ kds, g3 a = some (.dct kds) ∧ Q ((getK kds k).getD z) g3
  | _, _ => False) E) E) E
theorem ev_tget2 {k : Nat} (hr : Room k X.A) (ho : EV X o md) (he : EV X e mk) (hf : EV X f mx) (b : attributeBase o "get" X.env (eval o X.env) = eval o X.env := by rfl)
    (few : ((backTo cpos (starEach [e, f] X.env)).all (fun x => !x.1) && (backToKw cpos (keywordEach [] X.env)).all (fun x => x.1.isSome)
      && decide (([e, f] : List Expr).length + ([] : List Keyword).length + (if ([] : List Keyword).isEmpty then 0 else 1) < 30)) = true := by rfl)
    (line : (apos.endLine == cpos.line) = true := by rfl) (trees : backTo cpos (starEach [e, f] X.env) = [(false, eval e X.env), (false, eval f X.env)] := by rfl) : EV X (.Call (.Attribute o "get" apos) [e, f] [] cpos) (eTGet md mk mx) := by
  intro B W hB L
  have hu := hr.units
  refine pe_mono (pe_dget2 (by omega) (ho B W hB L) (he B W hB L) (hf B W hB L) ⟨b, few, line, trees⟩) ?_
  rintro σ H Q ⟨F, ρ, g, QD, R, w, q⟩
  refine ⟨F, ρ, g, _, R, w, ?_⟩
  rintro v1 H1 F1 g1 d1 k1 R1 r1 ⟨⟨a, kds, rfl, ha⟩, w1⟩
  cases r1
  obtain ⟨kvs, hH, _, _⟩ := (R1.gg a _ ha).1.dct_inv
  refine ⟨a, rfl, .inl ⟨kvs, .inl hH⟩, F1, ρ, g1, _, R1, w1, ?_⟩
  intro v2 H2 F2 g2 d2 k2 R2 r2 w2
  refine ⟨F2, ρ, g2, _, R2, w2, ?_⟩
  intro v3 H3 F3 g3 d3 k3 R3 r3 w3
  cases hy : keyOf d2 with
  | none => rw [hy] at w3; exact w3.elim
  | some key =>
    rw [hy] at w3
    obtain ⟨rfl, _⟩ := key_rep r2 hy
    obtain ⟨kds3, ha3, w3⟩ := w3
    obtain ⟨kvs3, hH3, _, rk⟩ := (R3.gg a _ ha3).1.dct_inv
    refine ⟨valV kvs3 key, .inl ⟨kvs3, key, .inl hH3, rfl, rfl⟩, q _ H3 F3 g3 _ ((k1.trans k2).trans k3) R3 ?_ w3⟩
    rcases (rk B.K F3).val key with ⟨v, d, e1, e2, r⟩ | ⟨e1, e2⟩
    · rw [e1, e2]; exact r
    · rw [e1, e2]; exact r3
/-- d[k] of a dict that changes -/
@[simp] def eDkix (md mk : EM D) : EM D := fun ρ g Q E => md ρ g (fun x g1 => mk ρ g1 (fun y g2 => match x, keyOf y with
  | .ref a, some k => ∃ kds d, g2 a = some (.dct kds) ∧ getK kds k = some d ∧ Q d g2
  | _, _ => False) E) E
theorem ev_dkix {k : Nat} (hr : Room k X.A) (ho : EV X o md) (he : EV X e mk) (hs : NoSl e := by exact fun _ _ => rfl) : EV X (.Subscript o e pos) (eDkix md mk) := by
  intro B W hB L
  have hu := hr.units
  refine pe_mono (pe_dget (by omega) (ho B W hB L) (he B W hB L) hs) ?_
  rintro σ H Q ⟨F, ρ, g, QD, R, w, q⟩
  refine ⟨F, ρ, g, _, R, w, ?_⟩
  intro v1 H1 F1 g1 d1 k1 R1 r1 w1
  refine ⟨F1, ρ, g1, _, R1, w1, ?_⟩
  intro v2 H2 F2 g2 d2 k2 R2 r2 w2
  cases d1 with
  | ref a =>
    cases r1
    cases hy : keyOf d2 with
    | none => rw [hy] at w2; exact w2.elim
    | some key =>
      rw [hy] at w2
      obtain ⟨rfl, _⟩ := key_rep r2 hy
      obtain ⟨kds, d, ha, hd, w2⟩ := w2
      obtain ⟨kvs, hH, _, rk⟩ := (R2.gg a _ ha).1.dct_inv
      rcases (rk B.K F2).val key with ⟨v, d', e1, e2, r⟩ | ⟨e1, e2⟩
      · rw [e2] at hd
        cases hd
        exact ⟨a, v, rfl, .inl ⟨kvs, key, .inl hH, rfl, e1.symm⟩, q _ H2 F2 g2 _ (k1.trans k2) R2 r w2⟩
      · rw [e2] at hd; cases hd
  | _ => exact w2.elim
/-- k in d, k not in d -/
@[simp] def eTin (mk md : EM D) (neg : Bool) : EM D := fun ρ g Q E => mk ρ g (fun y g1 => md ρ g1 (fun x g2 => match x, keyOf y with
  | .ref a, some k => ∃ kds, g2 a = some (.dct kds) ∧ Q (.bl (if neg then !(getK kds k).isSome else (getK kds k).isSome)) g2
  | _, _ => False) E) E
/-- d[k] = v -/
@[simp] def sTput (md mk mv : EM D) : SM := fun DD W ρ g => mv ρ g (fun v g1 => md ρ g1 (fun x g2 => mk ρ g2 (fun y g3 => match x, keyOf y with
  | .ref a, some k => atomD v = true ∧ ∃ kds, g3 a = some (.dct kds) ∧ kds.length < sizeLine ∧ DD.nx ρ (gset g3 a (.dct (putD kds k v)))
  | _, _ => False) (fun x g' => W x ρ g')) (fun x g' => W x ρ g')) (fun x g' => W x ρ g')
theorem dput_step {B : Bs} {F : Hp} {ρ : Rho} {g : G} {σ : L2.St} {H : Hp} (R : Rl B F ρ g σ H) {a : Addr} {kds : List (Key × D)} {key : Key} {v : V} {d : D} (ha : g a = some (.dct kds)) (hl : kds.length < sizeLine) (hv : atomD d = true) (r : Rep B.K F v d) :
    ∃ u, DPut H a (kV key) v (upd H a u) ∧ Rl B F ρ (gset g a (.dct (putD kds key d))) σ (upd H a u) := by
  obtain ⟨kvs, hH, nd, rk⟩ := (R.gg a _ ha).1.dct_inv
  refine ⟨.dK (putK kvs key v), DPut.k hH (by rw [(rk B.K F).length]; exact hl), R.trk ha (fun c z => by cases z) (RepO.dct B F upd_same (putD_nodup nd) fun K' F' => (rk K' F').put key (atom_rep hv r K' F'))⟩
theorem sv_tput {k : Nat} (hr : Room k X.A) (ho : EV X o md) (hi : EV X e mk) (hv : EV X value mv) (hs : swapsWith value (some (.Subscript o e pos')) pos.line X.env = pure false := by rfl) : SV X (.Assign [.Subscript o e pos'] value pos) (sTput md mk mv) := by
  intro B W hB L
  have hu := hr.units
  refine ps_mono (ps_dput (by omega) (ho B W hB L) (hi B W hB L) (hv B W hB L) hs) ?_
  rintro D σ H ⟨F, ρ, g, DD, R, w, q⟩
  refine ⟨F, ρ, g, _, R, w, ?_⟩
  intro v1 H1 F1 g1 d1 k1 R1 r1 w1
  refine ⟨F1, ρ, g1, _, R1, w1, ?_⟩
  intro v2 H2 F2 g2 d2 k2 R2 r2 w2
  refine ⟨F2, ρ, g2, _, R2, w2, ?_⟩
  intro v3 H3 F3 g3 d3 k3 R3 r3 w3
  cases d2 with
  | ref a =>
    cases r2
    cases hy : keyOf d3 with
    | none => rw [hy] at w3; exact w3.elim
    | some key =>
      rw [hy] at w3
      obtain ⟨rfl, _⟩ := key_rep r3 hy
      obtain ⟨at1, kds, ha, hl, w3⟩ := w3
      obtain ⟨u, h1, h2⟩ := dput_step (key := key) R3 ha hl at1 (r1.mono (k2.trans k3).ff)
      exact ⟨a, _, rfl, h1, q.nx σ _ F3 ρ _ ((k1.trans k2).trans k3).ff h2 w3⟩
  | _ => exact w3.elim
end
end DL

set_option Elab.async false
set_option linter.all false
set_option maxRecDepth 100000
namespace DL
open PySem PySem.Spec PyProof.Rows L2
section
variable {X : Cx} {e f o o2 e2 value : Expr} {md mk md2 mk2 mx mv m : EM D} {ms : EM (List D)} {pos pos' apos cpos tpos : Pos}
theorem set_dict {k : Nat} (hr : Room k X.A) : PSet X (fun o i v H Q => ∃ a H', o = .ref a ∧ DPut H a i v H' ∧ Q H') := by
  intro pins s σ H o i v ov iv u Q I ro ri rv h
  have hu := hr.units
  obtain ⟨a, H', rfl, hp, q⟩ := h
  obtain rfl : ov = Value.ref a := ro
  exact d_setItem (by omega) I hp ri rv fun s' I' => ⟨H', I', q⟩
/-- d[k], d2[k2] = a, b -/
@[simp] def sTput2 (md mk md2 mk2 : EM D) (ms : EM (List D)) : SM := fun DD W ρ g => ms ρ g (fun ds g1 => match ds with
  | [v, w] => 2 ≤ sizeLine ∧ md ρ g1 (fun x g2 => mk ρ g2 (fun y g3 => match x, keyOf y with
    | .ref a, some k => atomD v = true ∧ ∃ kds, g3 a = some (.dct kds) ∧ kds.length < sizeLine ∧ md2 ρ (gset g3 a (.dct (putD kds k v))) (fun x2 g4 => mk2 ρ g4 (fun y2 g5 => match x2, keyOf y2 with
      | .ref a2, some k2 => atomD w = true ∧ ∃ kds2, g5 a2 = some (.dct kds2) ∧ kds2.length < sizeLine ∧ DD.nx ρ (gset g5 a2 (.dct (putD kds2 k2 w)))
      | _, _ => False) (fun x g' => W x ρ g')) (fun x g' => W x ρ g')
    | _, _ => False) (fun x g' => W x ρ g')) (fun x g' => W x ρ g')
  | _ => False) (fun x g' => W x ρ g')
theorem sv_tput2 {k kt k2 : Nat} {pt pt2 p1 p2 : Pos} {a b : Expr} (hc : X.calm = true) (hr : Room k X.A) (he : EVs X [a, b] ms) (ho : EV X o md) (hi : EV X e mk) (ho2 : EV X o2 md2) (hi2 : EV X e2 mk2)
    (ha1 : ∀ v, assign (.Subscript o e p1) X.env v = (do
      let ov ← holding [v] (eval o X.env)
      let iv ← holding [v, ov] (eval e X.env)
      standAt p1
      holding [v, ov, iv] (setItem ov iv v)
      release [v, ov, iv] []) := by intro _; rfl)
    (ha2 : ∀ v, assign (.Subscript o2 e2 p2) X.env v = (do
      let ov ← holding [v] (eval o2 X.env)
      let iv ← holding [v, ov] (eval e2 X.env)
      standAt p2
      holding [v, ov, iv] (setItem ov iv v)
      release [v, ov, iv] []) := by intro _; rfl)
    (hq1 : (assignEach [.Subscript o e p1, .Subscript o2 e2 p2] X.env).map (·.2) = assign (.Subscript o e p1) X.env :: (assignEach [.Subscript o2 e2 p2] X.env).map (·.2) := by rfl)
    (hq2 : (assignEach [.Subscript o2 e2 p2] X.env).map (·.2) = assign (.Subscript o2 e2 p2) X.env :: (assignEach [] X.env).map (·.2) := by rfl)
    (hn : (assignEach [.Subscript o e p1, .Subscript o2 e2 p2] X.env).length = 2 := by rfl) (hst : (assignEach [.Subscript o e p1, .Subscript o2 e2 p2] X.env).findIdx? (·.1) = none := by rfl)
    (hs : swapsWithSole [.Tuple [.Subscript o e p1, .Subscript o2 e2 p2] kt pt] (.Tuple [a, b] k2 pt2) pos.line X.env = pure false := by rfl) (hw : swappedStores [.Tuple [.Subscript o e p1, .Subscript o2 e2 p2] kt pt] (.Tuple [a, b] k2 pt2) X.env = pure none := by rfl)
    (h1 : (assignEach [.Tuple [.Subscript o e p1, .Subscript o2 e2 p2] kt pt] X.env).map (·.2) = [assign (.Tuple [.Subscript o e p1, .Subscript o2 e2 p2] kt pt) X.env] := by rfl) :
    SV X (.Assign [.Tuple [.Subscript o e p1, .Subscript o2 e2 p2] kt pt] (.Tuple [a, b] k2 pt2) pos) (sTput2 md mk md2 mk2 ms) := by
  intro B W hB L
  refine ps_mono (ps_asg (pe_tup (he B W hB L)) (pg_tup hc (pgs_cons (pg_sub (ho B W hB L) (hi B W hB L) (set_dict hr) ha1) (pgs_cons (pg_sub (ho2 B W hB L) (hi2 B W hB L) (set_dict hr) ha2) pgs_nil hq2) hq1) hn hst) hs hw h1) ?_
  rintro D σ H ⟨F, ρ, g, DD, R, w, q⟩
  refine ⟨F, ρ, g, _, R, w, ?_⟩
  intro us H1 F1 g1 ds k1 R1 rl w1
  have hul := rl.length
  split at w1
  · rename_i v w
    obtain ⟨hz, w1⟩ := w1
    match us, hul, rl with
    | [x, y], _, .cons rx (.cons ry .nil) =>
      refine ⟨by simpa using hz, fun p hp => ?_⟩
      have G1 := Gro.lay0 (o := .tup [x, y]) R1.fh hp
      refine ⟨p, [x, y], rfl, .inl (.inl upd_same), rfl, ?_⟩
      refine ⟨x, [y], rfl, F1, ρ, g1, _, R1.gro G1, w1, ?_⟩
      intro v2 H2 F2 g2 d2 k2 R2 r2 w2
      refine ⟨F2, ρ, g2, _, R2, w2, ?_⟩
      intro v3 H3 F3 g3 d3 k3 R3 r3 w3
      cases d2 with
      | ref a =>
        cases r2
        cases hy : keyOf d3 with
        | none => rw [hy] at w3; exact w3.elim
        | some key =>
          rw [hy] at w3
          obtain ⟨rfl, _⟩ := key_rep r3 hy
          obtain ⟨at1, kds, ha, hl, w3⟩ := w3
          obtain ⟨u, e1, R3'⟩ := dput_step (key := key) R3 ha hl at1 (rx.mono (k2.trans k3).ff)
          refine ⟨a, _, rfl, e1, y, [], rfl, F3, ρ, _, _, R3', w3, ?_⟩
          intro v4 H4 F4 g4 d4 k4 R4 r4 w4
          refine ⟨F4, ρ, g4, _, R4, w4, ?_⟩
          intro v5 H5 F5 g5 d5 k5 R5 r5 w5
          cases d4 with
          | ref a2 =>
            cases r4
            cases hy2 : keyOf d5 with
            | none => rw [hy2] at w5; exact w5.elim
            | some key2 =>
              rw [hy2] at w5
              obtain ⟨rfl, _⟩ := key_rep r5 hy2
              obtain ⟨at2, kds2, ha2', hl2, w5⟩ := w5
              have ff := ((k2.trans k3).ff).trans (k4.trans k5).ff
              obtain ⟨u2, e2', R5'⟩ := dput_step (key := key2) R5 ha2' hl2 at2 (ry.mono ff)
              exact ⟨a2, _, rfl, e2', rfl, q.nx σ _ F5 ρ _ (k1.ff.trans ff) R5' w5⟩
          | _ => exact w5.elim
      | _ => exact w3.elim
  · exact w1.elim
end
end DL

set_option Elab.async false
set_option linter.all false
set_option maxRecDepth 100000
namespace DL
open PySem PySem.Spec PyProof.Rows L2
section
variable {X : Cx} {a b e : Expr} {ma mb m : EM D} {pos : Pos}
/-! ### is, is not of bools -/
@[simp] def isB (x y : D) : Option D := match x, y with | .bl p, .bl q => some (.bl (decide (p = q))) | _, _ => none
@[simp] def isntB (x y : D) : Option D := match x, y with | .bl p, .bl q => some (.bl (!decide (p = q))) | _, _ => none
theorem os_isB : OS2 X (compareOp .Is) isB := by
  refine os2_of op_isBl fun F H x y dx dy dz Q hF hx hy hf q => ?_
  unfold isB at hf
  split at hf
  · cases hx.bl_inv
    cases hy.bl_inv
    cases hf
    exact ⟨_, _, rfl, rfl, q _ F H (Gro.refl hF) (.bl _)⟩
  · cases hf
theorem os_isntB : OS2 X (compareOp .IsNot) isntB := by
  refine os2_of op_notBl fun F H x y dx dy dz Q hF hx hy hf q => ?_
  unfold isntB at hf
  split at hf
  · cases hx.bl_inv
    cases hy.bl_inv
    cases hf
    exact ⟨_, _, rfl, rfl, q _ F H (Gro.refl hF) (.bl _)⟩
  · cases hf
/-! ### xs[::-1] of a list -/
@[simp] def nRev (m : EM D) : EM (List D) := fun ρ g Q E => m ρ g (fun x g1 => match x with | .lst ds => Q ds.reverse g1 | _ => False) E
theorem en_revL {k : Nat} {p1 p2 p3 : Pos} (ha : EV X a ma) : EN X (.Subscript a (.Slice none none (some (.UnaryOp .USub (.Constant (.int 1) k p1) p2)) p3) pos) (nRev ma) := by
  intro B W hB L
  refine pe_mono (pe_revL (ha B W hB L)) ?_
  rintro σ H Q ⟨F, ρ, g, QD, R, w, q⟩
  refine ⟨F, ρ, g, _, R, w, ?_⟩
  intro v1 H1 F1 g1 d1 k1 R1 r1 w1
  cases r1 with
  | @lst a xs ds hs hr =>
    rw [hB] at hs
    refine ⟨a, xs, rfl, R1.fh.seq hs, fun p hp => ?_⟩
    have G1 := Gro.lay0 (o := .lst xs.reverse) R1.fh hp
    exact q p _ _ F1 g1 _ (k1.trans G1.ste) (R1.gro G1) (k1.none hp) upd_same (R1.fh.free hp) (R1.fresh_g hp) (R1.fresh_0 hp) (R1.fresh_s hp) hr.reverse w1
  | _ => exact w1.elim
/-! ### xs.remove(k) of an own list of ints -/
@[simp] def xRem (i : Nat) (m : EM D) : XM D := fun ρ g Q E => match ρ[i]? with
  | some (.acc ds) => m ρ g (fun k g' => match k, intsOf ds with
    | .int z, some ns => z ∈ ns ∧ Q .non (ρ.set i (.acc ((ns.erase z).map .int))) g'
    | _, _ => False) (fun x g' => E x ρ g')
  | _ => False
theorem ex_rem {i : Nat} {x : Str} {p apos cpos : Pos} (ha : EV X a m) (hN : X.N[i]? = some x := by rfl) (hv : Vis X.env.scope x := by first | exact Or.inl rfl | exact Or.inr (Or.inl rfl) | exact Or.inr (Or.inr rfl)) (hd : (x == ("__debug__" : Str)) = false := by decide) (hcd : (x == ("__classdict__" : Str)) = false := by decide)
    (hbase : attributeBase (.Name x p) "remove" X.env (eval (.Name x p) X.env) = eval (.Name x p) X.env := by rfl)
    (hfew : ((backTo cpos (starEach [a] X.env)).all (fun x => !x.1) && (backToKw cpos (keywordEach [] X.env)).all (fun x => x.1.isSome)
      && decide ([a].length + ([] : List Keyword).length + (if ([] : List Keyword).isEmpty then 0 else 1) < 30)) = true := by rfl)
    (hline : (apos.endLine == cpos.line) = true := by rfl) (hs : starEach [a] X.env = (false, eval a X.env) :: starEach [] X.env := by rfl) (hplain : (backTo cpos (starEach [] X.env)).any (·.1) = false := by rfl) :
    EX X (.Call (.Attribute (.Name x p) "remove" apos) [a] [] cpos) (xRem i m) := by
  intro B W hB L
  refine pe_mono (pe_bm PySem.F.plainAttrs_list PySem.F.slot_list_remove PySem.F.type_list_remove mt_remove (pe_var (i := i) hN hv hd hcd) (pa_cons (ha B W hB L) pa_nil hs) hbase hfew hline hs hplain) ?_
  rintro σ H Q ⟨F, ρ, g, QD, R, w, q⟩
  unfold xRem at w
  split at w
  · rename_i ds hi
    obtain ⟨a0, xs0, e0, h0, _⟩ := R.sl i _ hi
    refine ⟨.ref a0, e0, .inl ⟨rfl, _, SqL.of h0⟩, F, ρ, g, _, R, w, ?_⟩
    intro v1 H1 F1 g1 d1 k1 R1 r1 w1
    split at w1
    · rename_i z ns hns
      obtain ⟨hz, w1⟩ := w1
      obtain ⟨a, xs, e1, h1, h2, h3, h4, h5⟩ := R1.sl i _ hi
      rw [e0] at e1
      cases e1
      rw [intsOf_eq hns] at h2
      rw [h2.ints] at h1
      obtain ⟨j, j1, j2, j3, j4⟩ := L2.first_at hz
      refine ⟨a0, ns, z, j, rfl, by rw [r1.int_inv], h1, j2, fun m hm => j3 m hm, ?_⟩
      rw [j4]
      exact q .non _ F1 _ g1 .non k1.ff (R1.accUpd hi e0 (RepL.of_ints _)) .non w1
    · exact w1.elim
  · exact w.elim
/-! ### match of a text -/
def sCases : List (Str × SM) → Str → SM
  | [], _ => sNext
  | (z, n) :: r, v => fun DD W ρ g => if v = z then n DD W ρ g else sCases r v DD W ρ g
@[simp] theorem sCases_nil (v : Str) : sCases [] v = sNext := rfl
theorem sCases_cons (z : Str) (n : SM) (r : List (Str × SM)) (v : Str) (DD : SE) (W : Wi) (ρ : Rho) (g : G) : sCases ((z, n) :: r) v DD W ρ g = if v = z then n DD W ρ g else sCases r v DD W ρ g := rfl
inductive Mcs (X : Cx) : List MatchCase → List (Str × SM) → Prop
  | nil : Mcs X [] []
  | cons {z : Str} {j} {p p2 : Pos} {body : List Stmt} {n : SM} {cs : List MatchCase} {r : List (Str × SM)} : SVs X body n → Mcs X cs r → Mcs X (⟨.MatchValue (.Constant (.str z) j p) p2, none, body⟩ :: cs) ((z, n) :: r)
@[simp] def sMatch (m : EM D) (l : List (Str × SM)) : SM := fun DD W ρ g => m ρ g (fun d g' => match d with | .str v => sCases l v DD W ρ g' | _ => False) (fun x g' => W x ρ g')
theorem mcs_run {B : Bs} {W : Wi} (hB : B.K = X.K) (L : Lk X B W) {v : Str} {tk : Tok} : ∀ {cs : List MatchCase} {l : List (Str × SM)}, Mcs X cs l → ∀ {pins : List (Addr × Obj)} {s : Shared} {σ : L2.St} {H : Hp} {D : Ends} {fst : Bool}, Inv X pins σ H s → tS B W (sCases l v) D σ H →
    wpAny (model X.prog X.w) X.A (matchCases cs X.env (.str v tk) fst) (SP X pins D) X.xe s
  | _, _, .nil, pins, s, σ, H, D, fst, I, h => by
    obtain ⟨F, ρ, g, DD, R, w, q⟩ := h
    exact wpAny_matchCases_nil ⟨σ, H, I, q.nx σ H F ρ g (Same.refl F) R w⟩
  | _, _, .cons (z := z) (n := n) (cs := cs) (r := r) hb hr, pins, s, σ, H, D, fst, I, h => by
    refine wpAny_matchCases_cons (wpAny_matchPattern_Value (thn ((pe_str (x := z)).run pins s σ H (fun x H1 => x = .str z ∧ H1 = H) I ⟨rfl, rfl⟩) ?_))
    rintro u s1 ⟨x, H1, I1, r1, rfl, rfl⟩
    obtain ⟨t, rfl⟩ := r1
    refine PyProof.Rows.eq_str (wpAny_truthy_bool ?_)
    obtain ⟨F, ρ, g, DD, R, w, q⟩ := h
    rw [sCases_cons] at w
    by_cases hz : v = z
    · rw [if_pos hz] at w
      have : (v == z) = true := by simp [hz]
      rw [this, if_pos rfl]
      exact wpAny_assignInOrder_none ((hb B W hB L).run pins s1 σ H1 D I1 ⟨F, ρ, g, DD, R, w, q⟩)
    · rw [if_neg hz] at w
      have : (v == z) = false := by simp [hz]
      rw [this, if_neg Bool.false_ne_true]
      exact mcs_run hB L hr I1 ⟨F, ρ, g, DD, R, w, q⟩
theorem sv_match {cs : List MatchCase} {l : List (Str × SM)} (ha : EV X a m) (hc : Mcs X cs l) : SV X (.Match a cs pos) (sMatch m l) := by
  intro B W hB L
  refine ⟨fun pins s σ H D I h => ?_⟩
  obtain ⟨F, ρ, g, DD, R, w, q⟩ := h
  refine wpAny_Match (thn ((ha B W hB L).run pins s σ H (fun v H' => ∃ z, v = .str z ∧ tS B W (sCases l z) D σ H') I ⟨F, ρ, g, _, R, w, ?_⟩) ?_)
  · intro v1 H1 F1 g1 d1 k1 R1 r1 w1
    cases d1 with
    | str z => exact ⟨z, r1.str_inv, F1, ρ, g1, DD, R1, w1, q.mono k1.ff⟩
    | _ => exact w1.elim
  · rintro u s1 ⟨x, H1, I1, r1, z, rfl, h⟩
    obtain ⟨t, rfl⟩ := r1
    exact mcs_run hB L hc I1 h
end
end DL

set_option Elab.async false
set_option linter.all false
set_option maxRecDepth 100000
namespace DL
open PySem PySem.Spec PyProof.Rows L2
/-! ### names of the module that hold tuples of texts -/
def GTup (K : PySem.W.Frag) (mg : Str → Option Value) (x : Str) (zs : List Str) : Prop :=
  ∃ (a : Addr) (o : Obj) (its : Array Value) (n : Nat), mg x = some (.ref a) ∧ K.lookup a = some o ∧ o.cls = .type "tuple" ∧ o.dict = none ∧ o.data = .seq its n ∧ its.size ≤ sizeLine ∧ Vals (zs.map V.str) its.toList
theorem RepL.of_strs {K : PySem.W.Frag} {F : Hp} : ∀ zs : List Str, RepL K F (zs.map V.str) (zs.map D.str)
  | [] => .nil
  | z :: zs => .cons (.str z) (RepL.of_strs zs)
section
variable {X : Cx} {pos : Pos}
theorem ev_gtup {x : Str} {zs : List Str} (hg : Gl X x) (h : GTup X.K X.mg x zs) (hd : (x == ("__debug__" : Str)) = false := by decide) : EV X (.Name x pos) (eC (.tup (zs.map .str))) := by
  obtain ⟨a, o, its, n, h1, h2, h3, h4, h5, h6, h7⟩ := h
  intro B W hB L
  refine pe_mono (pe_glob (v := V.ref a) hg h1 rfl hd) ?_
  rintro σ H Q ⟨F, ρ, g, QD, R, w, q⟩
  refine q (.ref a) H F g _ Ste.refl R (.tup (.inr ⟨o, its, n, by rw [hB]; exact h2, h3, h4, h5, h6, h7⟩) (RepL.of_strs zs)) w
end
end DL

set_option Elab.async false
set_option linter.all false
set_option maxRecDepth 100000
namespace DL
open PySem PySem.Spec PyProof.Rows L2
/-! ### repr, of bools too -/
def reprD2 : List D → Option D
  | [.bl b] => some (.str (if b then "True" else "False"))
  | xs => reprD xs
@[simp] theorem reprD2_bl (b : Bool) : reprD2 [.bl b] = some (.str (if b then "True" else "False")) := rfl
theorem cs_repr2 {X : Cx} {k : Nat} (hr : RoomG k X.A) : CS X (.builtin "repr") reprD2 := by
  intro pins s σ H F xs us ds dz Q I hF rx hx hf q
  unfold reprD2 at hf
  split at hf
  · rename_i b
    cases hf
    obtain ⟨v, rfl, r⟩ := hx.one_inv
    cases r.bl_inv
    obtain ⟨u, rfl, ru⟩ := rx.one
    cases (show u = Value.bool b from ru)
    exact PySem.P.repr_of_bool ⟨.str _, H, I.tok _, ⟨_, rfl⟩, q _ F H (Gro.refl hF) (.str _)⟩
  · exact cs_repr hr pins s σ H F xs us ds dz Q I hF rx hx hf q
end DL

set_option Elab.async false
set_option linter.all false
set_option maxRecDepth 100000
namespace DL
open PySem PySem.Spec PyProof.Rows L2
/-! ### order of texts -/
def sLt (a b : Str) : Bool := decide (a.cps.toList < b.cps.toList)
@[simp] def ltD (x y : D) : Option D := match x, y with | .int i, .int j => some (.bl (decide (i < j))) | .str i, .str j => some (.bl (sLt i j)) | _, _ => none
@[simp] def leD (x y : D) : Option D := match x, y with | .int i, .int j => some (.bl (decide (i ≤ j))) | .str i, .str j => some (.bl (!sLt j i)) | _, _ => none
@[simp] def gtD (x y : D) : Option D := match x, y with | .int i, .int j => some (.bl (decide (j < i))) | .str i, .str j => some (.bl (sLt j i)) | _, _ => none
@[simp] def geD (x y : D) : Option D := match x, y with | .int i, .int j => some (.bl (decide (j ≤ i))) | .str i, .str j => some (.bl (!sLt i j)) | _, _ => none
section
variable {X : Cx}
theorem os2_is {op : CmpOp} {gi : Int → Int → Bool} {gs : Str → Str → Bool} (h1 : OpR X (compareOp op) (rI0 fun i j => .bl (gi i j)))
    (h2 : OpR X (compareOp op) (fun x y H Q => ∃ i j, x = .str i ∧ y = .str j ∧ Q (.bl (gs i j)) H)) :
    OS2 X (compareOp op) (fun x y => match x, y with | .int i, .int j => some (.bl (gi i j)) | .str i, .str j => some (.bl (gs i j)) | _, _ => none) := by
  intro pins s σ H F x y v u dx dy dz Q I hF rx ry hx hy hf q
  dsimp only at hf
  split at hf
  · cases hf
    cases hx.int_inv
    cases hy.int_inv
    exact h1 pins s σ H _ _ v u Q I rx ry ⟨_, _, rfl, rfl, q _ F H (Gro.refl hF) (.bl _)⟩
  · cases hf
    cases hx.str_inv
    cases hy.str_inv
    exact h2 pins s σ H _ _ v u Q I rx ry ⟨_, _, rfl, rfl, q _ F H (Gro.refl hF) (.bl _)⟩
  · cases hf
theorem os_ltD : OS2 X (compareOp .Lt) ltD := os2_is op_lt op_lt_str
theorem os_leD : OS2 X (compareOp .LtE) leD := os2_is op_le op_le_str
theorem os_gtD : OS2 X (compareOp .Gt) gtD := os2_is op_gt op_gt_str
theorem os_geD : OS2 X (compareOp .GtE) geD := os2_is op_ge op_ge_str
/-! ### len, sorted, list of a dict that stays -/
@[simp] def lenD2 : List D → Option D
  | [.dic ks _] => some (.int ks.length)
  | xs => lenD xs
theorem cs_len2 : CS X (.builtin "len") lenD2 := by
  intro pins s σ H F xs us ds dz Q I hF rx hx hf q
  unfold lenD2 at hf
  split at hf
  · rename_i ks es
    cases hf
    obtain ⟨v, rfl, r⟩ := hx.one_inv
    obtain ⟨a, od, kvs, rfl, ea, hk, hn, rk, rv⟩ := r.dic_inv
    obtain ⟨u, rfl, ru⟩ := rx.one
    cases (show u = Value.ref a from ru)
    refine d_len I (.inr ⟨od, hF _ _ ea⟩) fun t s' I' => ⟨.int kvs.length, H, I', ⟨t, rfl⟩, ?_⟩
    have := q (.int ks.length) F H (Gro.refl hF) (.int _)
    rw [← hk, List.length_map] at this
    exact this
  · exact cs_len pins s σ H F xs us ds dz Q I hF rx hx hf q
/-- the texts of a row of keys -/
def strKeys : List Key → Option (List Str)
  | [] => some []
  | .inr x :: ks => (strKeys ks).map (x :: ·)
  | _ => none
theorem strKeys_eq : ∀ {ks : List Key} {xs : List Str}, strKeys ks = some xs → ks = xs.map Sum.inr
  | [], _, h => by cases h; rfl
  | .inl _ :: _, _, h => by cases h
  | .inr x :: ks, ys, h => by
    cases hk : strKeys ks with
    | none => rw [strKeys, hk] at h; cases h
    | some zs => rw [strKeys, hk] at h; cases h; rw [List.map_cons, strKeys_eq hk]
@[simp] theorem strKeys_map : ∀ xs : List Str, strKeys (xs.map Sum.inr) = some xs
  | [] => rfl
  | x :: xs => by rw [List.map_cons, strKeys, strKeys_map xs]; rfl
theorem sLt_asymm {a b : Str} (h : sLt a b = true) : sLt b a = false := by
  unfold sLt at *
  have := of_decide_eq_true h
  exact decide_eq_false fun z => absurd z (List.lt_asymm this)
theorem sLt_irrefl (a : Str) : sLt a a = false := decide_eq_false (List.lt_irrefl _)
theorem sLt_trans {a b c : Str} (h : sLt a b = true) (h2 : sLt b c = true) : sLt a c = true := by
  unfold sLt at *
  exact decide_eq_true (List.lt_trans (of_decide_eq_true h) (of_decide_eq_true h2))
theorem sLt_tri {a b : Str} (h : sLt a b = false) (h2 : sLt b a = false) : a = b := by
  unfold sLt at *
  have h := of_decide_eq_false h
  have h2 := of_decide_eq_false h2
  have e : a.cps.toList = b.cps.toList := by
    have := List.le_antisymm (as := a.cps.toList) (bs := b.cps.toList) (List.not_lt.mp h2) (List.not_lt.mp h)
    exact this
  obtain ⟨⟨x⟩⟩ := a
  obtain ⟨⟨y⟩⟩ := b
  cases e; rfl
theorem sLe_trans {a b c : Str} (h : sLt b a = false) (h2 : sLt c b = false) : sLt c a = false := by
  cases q : sLt c a with
  | false => rfl
  | true =>
    cases q2 : sLt a b with
    | true => rw [sLt_trans q q2] at h2; cases h2
    | false =>
      rw [sLt_tri q2 h] at q
      rw [q] at h2; cases h2
def sortS (xs : List Str) : List Str := xs.mergeSort fun a b => !sLt b a
theorem sortS_perm (xs : List Str) : (sortS xs).Perm xs := List.mergeSort_perm xs _
theorem sortS_le (xs : List Str) : (sortS xs).Pairwise fun a b => sLt b a = false := by
  have h := List.pairwise_mergeSort (le := fun a b => !sLt b a) (fun a b c h1 h2 => by
    simp only [Bool.not_eq_true'] at *
    exact sLe_trans h1 h2) (fun a b => by
    cases q : sLt b a with
    | false => rfl
    | true => simp [sLt_asymm q]) xs
  exact h.imp fun z => by simpa using z
theorem sorted_uniq {xs ys : List Str} (p : xs.Perm ys) (h1 : xs.Pairwise fun a b => sLt b a = false) (h2 : ys.Pairwise fun a b => sLt b a = false) : xs = ys :=
  p.eq_of_pairwise (fun a b _ _ z1 z2 => sLt_tri z2 z1) h1 h2
theorem rising_pw : ∀ (x : Str) (r : List Str), risingS x r = true → (x :: r).Pairwise fun a b => sLt b a = false
  | x, [], _ => by simp
  | x, y :: r, h => by
    rw [risingS, Bool.and_eq_true, Bool.not_eq_true', ltCps_eq] at h
    have ih := rising_pw y r h.2
    have h1 : sLt y x = false := h.1
    refine List.pairwise_cons.mpr ⟨fun z hz => ?_, ih⟩
    rcases List.mem_cons.mp hz with rfl | hz
    · exact h1
    · exact sLe_trans h1 ((List.pairwise_cons.mp ih).1 z hz)
theorem sortedS_pw : ∀ {xs : List Str}, sortedS xs = true → xs.Pairwise fun a b => sLt b a = false
  | [], _ => .nil
  | x :: r, h => rising_pw x r h
theorem sortS_of {xs ys : List Str} (p : ys.Perm xs) (h : sortedS ys = true) : ys = sortS xs := sorted_uniq (p.trans (sortS_perm xs).symm) (sortedS_pw h) (sortS_le xs)
/-- a row of texts -/
def strsOf : List D → Option (List Str)
  | [] => some []
  | .str x :: ds => (strsOf ds).map (x :: ·)
  | _ => none
theorem strsOf_eq : ∀ {ds : List D} {xs : List Str}, strsOf ds = some xs → ds = xs.map D.str
  | [], _, h => by cases h; rfl
  | .str x :: ds, _, h => by
    cases hk : strsOf ds with
    | none => rw [strsOf, hk] at h; cases h
    | some zs => rw [strsOf, hk] at h; cases h; rw [List.map_cons, strsOf_eq hk]
  | .non :: _, _, h => by cases h
  | .bl _ :: _, _, h => by cases h
  | .int _ :: _, _, h => by cases h
  | .tup _ :: _, _, h => by cases h
  | .lst _ :: _, _, h => by cases h
  | .dic _ _ :: _, _, h => by cases h
  | .ref _ :: _, _, h => by cases h
  | .ptp _ :: _, _, h => by cases h
@[simp] theorem strsOf_map : ∀ xs : List Str, strsOf (xs.map D.str) = some xs
  | [] => rfl
  | x :: xs => by rw [List.map_cons, strsOf, strsOf_map xs]; rfl
theorem RepL.strs {K : PySem.W.Frag} {F : Hp} : ∀ {vs : List V} {xs : List Str}, RepL K F vs (xs.map D.str) → vs = xs.map V.str
  | _, [], .nil => rfl
  | _, x :: xs, .cons h t => by rw [h.str_inv, RepL.strs t]; rfl
theorem RepL.strs_of {K : PySem.W.Frag} {F : Hp} : ∀ xs : List Str, RepL K F (xs.map V.str) (xs.map D.str)
  | [] => .nil
  | x :: xs => .cons (.str x) (RepL.strs_of xs)
/-- the numbers of a row of keys -/
def intKeys : List Key → Option (List Int)
  | [] => some []
  | .inl x :: ks => (intKeys ks).map (x :: ·)
  | _ => none
theorem intKeys_eq : ∀ {ks : List Key} {xs : List Int}, intKeys ks = some xs → ks = xs.map Sum.inl
  | [], _, h => by cases h; rfl
  | .inr _ :: _, _, h => by cases h
  | .inl x :: ks, ys, h => by
    cases hk : intKeys ks with
    | none => rw [intKeys, hk] at h; cases h
    | some zs => rw [intKeys, hk] at h; cases h; rw [List.map_cons, intKeys_eq hk]
@[simp] theorem intKeys_map : ∀ xs : List Int, intKeys (xs.map Sum.inl) = some xs
  | [] => rfl
  | x :: xs => by rw [List.map_cons, intKeys, intKeys_map xs]; rfl
def sortedD2 : List D → Option (List D)
  | [.dic ks _] => match strKeys ks with
    | some xs => if xs.length < 64 then some ((sortS xs).map D.str) else none
    | none => match intKeys ks with
      | some ns => if ns.length < 64 then some ((sortI ns).map D.int) else none
      | none => none
  | [.lst ds] => match strsOf ds with
    | some xs => if xs.length < 64 then some ((sortS xs).map D.str) else none
    | none => sortedD [.lst ds]
  | xs => sortedD xs
@[simp] theorem sortedD2_dic (xs : List Str) (ds : List D) (h : xs.length < 64) : sortedD2 [.dic (xs.map Sum.inr) ds] = some ((sortS xs).map D.str) := by simp [sortedD2, h]
@[simp] theorem sortedD2_strs (xs : List Str) (h : xs.length < 64) : sortedD2 [.lst (xs.map D.str)] = some ((sortS xs).map D.str) := by simp [sortedD2, h]
theorem cn_sortedD2 (hc : X.calm = true) : CN X (.builtin "sorted") sortedD2 := by
  intro pins s σ H F vs us ds dz Q I hF rx hx hf q
  unfold sortedD2 at hf
  split at hf
  · rename_i ks es
    obtain ⟨v, rfl, r⟩ := hx.one_inv
    obtain ⟨a, od, kvs, rfl, ea, hk, hn, rk, rv⟩ := r.dic_inv
    cases h1 : strKeys ks with
    | some xs =>
      simp only [h1] at hf
      split at hf
      · rename_i h64
        cases hf
        refine call_sortedD hc pins s σ H _ us Q I rx ⟨a, kvs, xs, rfl, .inr ⟨od, hF _ _ ea⟩, hk.trans (strKeys_eq h1), h64, fun ys p hp hs hn' => ?_⟩
        rw [sortS_of hp hs]
        exact q p _ F H (Gro.refl hF) hn' (RepL.strs_of _) (hF.free hn') hn'
      · cases hf
    | none =>
      simp only [h1] at hf
      cases h2 : intKeys ks with
      | some ns =>
        simp only [h2] at hf
        split at hf
        · rename_i h64
          cases hf
          refine call_sortedDI hc pins s σ H _ us Q I rx ⟨a, kvs, ns, rfl, .inr ⟨od, hF _ _ ea⟩, hk.trans (intKeys_eq h2), h64, fun ys p hp hs hn' => ?_⟩
          rw [sortI_of hp hs]
          exact q p _ F H (Gro.refl hF) hn' (RepL.of_ints _) (hF.free hn') hn'
        · cases hf
      | none => simp only [h2] at hf; cases hf
  · rename_i es
    cases h1 : strsOf es with
    | some xs =>
      simp only [h1] at hf
      split at hf
      · rename_i h64
        cases hf
        obtain ⟨v, rfl, r⟩ := hx.one_inv
        cases r with
        | lst hs hr =>
          rw [strsOf_eq h1] at hr
          have e := hr.strs
          subst e
          refine cr_sortedS pins s σ H _ us Q I rx ⟨_, xs, rfl, hF.seq hs, h64, fun ys p hp hs' hn' => ?_⟩
          rw [sortS_of hp hs']
          exact q p _ F H (Gro.refl hF) hn' (RepL.strs_of _) (hF.free hn') hn'
      · cases hf
    | none =>
      simp only [h1] at hf
      exact cn_sortedD pins s σ H F vs us _ dz Q I hF rx hx hf q
  · exact cn_sortedD pins s σ H F vs us _ dz Q I hF rx hx hf q
@[simp] def listD2 : List D → Option (List D)
  | [.dic ks _] => some (ks.map ofKey)
  | xs => listD xs
theorem RepL.keys_of {K : PySem.W.Frag} {F : Hp} : ∀ ks : List Key, RepL K F (ks.map kV) (ks.map ofKey)
  | [] => .nil
  | k :: ks => .cons (ofKey_rep k) (RepL.keys_of ks)
theorem cn_list2 (hc : X.calm = true) : CN X (.type "list") listD2 := by
  intro pins s σ H F vs us ds dz Q I hF rx hx hf q
  unfold listD2 at hf
  split at hf
  · rename_i ks es
    cases hf
    obtain ⟨v, rfl, r⟩ := hx.one_inv
    obtain ⟨a, od, kvs, rfl, ea, hk, hn, rk, rv⟩ := r.dic_inv
    refine call_listD hc pins s σ H _ us Q I rx ⟨a, kvs, rfl, .inr ⟨od, hF _ _ ea⟩, fun p hp => ?_⟩
    have e : (kvs.map fun kv => kV kv.1) = ks.map kV := by rw [← hk, List.map_map]; rfl
    rw [e]
    exact q p _ F H (Gro.refl hF) hp (RepL.keys_of ks) (hF.free hp) hp
  · exact cn_list pins s σ H F vs us _ dz Q I hF rx hx hf q
end
section
variable {X : Cx} {e f o : Expr} {md mk m : EM D} {pos apos cpos : Pos}
/-! ### d.get(k) -/
@[simp] def eGet1 (md mk : EM D) : EM D := fun ρ g Q E => md ρ g (fun x g1 => (∃ ks ds, x = .dic ks ds) ∧ mk ρ g1 (fun y g2 => match x, keyOf y with | .dic ks ds, some k => Q ((getK (ks.zip ds) k).getD .non) g2 | _, _ => False) E) E
theorem ev_get1 {k : Nat} (hr : Room k X.A) (ho : EV X o md) (he : EV X e mk) (b : attributeBase o "get" X.env (eval o X.env) = eval o X.env := by rfl)
    (few : ((backTo cpos (starEach [e] X.env)).all (fun x => !x.1) && (backToKw cpos (keywordEach [] X.env)).all (fun x => x.1.isSome)
      && decide (([e] : List Expr).length + ([] : List Keyword).length + (if ([] : List Keyword).isEmpty then 0 else 1) < 30)) = true := by rfl)
    (line : (apos.endLine == cpos.line) = true := by rfl) (trees : backTo cpos (starEach [e] X.env) = [(false, eval e X.env)] := by rfl) : EV X (.Call (.Attribute o "get" apos) [e] [] cpos) (eGet1 md mk) := by
  intro B W hB L
  have hu := hr.units
  refine pe_mono (pe_dget1 (by omega) (ho B W hB L) (he B W hB L) ⟨b, few, line, trees⟩) ?_
  rintro σ H Q ⟨F, ρ, g, QD, R, w, q⟩
  refine ⟨F, ρ, g, _, R, w, ?_⟩
  rintro v1 H1 F1 g1 d1 k1 R1 r1 ⟨⟨ks, ds, rfl⟩, w1⟩
  obtain ⟨a, od, kvs, rfl, ea, hk, hn, rk, rv⟩ := r1.dic_inv
  refine ⟨a, rfl, .inl ⟨kvs, .inr ⟨od, R1.fh _ _ ea⟩⟩, F1, ρ, g1, _, R1, w1, ?_⟩
  intro v2 H2 F2 g2 d2 k2 R2 r2 w2
  cases hy : keyOf d2 with
  | none => rw [hy] at w2; exact w2.elim
  | some key =>
    rw [hy] at w2
    obtain ⟨rfl, _⟩ := key_rep r2 hy
    have ea3 : H2 a = some (.frz od (.dK kvs)) := R2.fh _ _ (k2.ff _ _ ea)
    refine ⟨valV kvs key, .inl ⟨kvs, key, .inr ⟨od, ea3⟩, rfl, rfl⟩, q _ H2 F2 g2 _ (k1.trans k2) R2 ?_ w2⟩
    rcases rk.val key with ⟨v, d, e1, e2, r⟩ | ⟨e1, e2⟩
    · rw [e1, e2]
      exact r.mono k2.ff
    · rw [e1, e2]
      exact .non
end
end DL

set_option Elab.async false
set_option linter.all false
set_option maxRecDepth 100000
namespace DL
open PySem PySem.Spec PyProof.Rows L2
/-! ### a dict that changed becomes a value -/
def gdel (g : G) (a : Addr) : G := fun b => if b = a then none else g b
theorem gdel_same {g : G} {a : Addr} : gdel g a a = none := by unfold gdel; rw [if_pos rfl]
theorem gdel_ne {g : G} {a b : Addr} (h : b ≠ a) : gdel g a b = g b := by unfold gdel; rw [if_neg h]
@[simp] theorem gset_at {g : G} {a : Addr} {o : O} : gset g a o a = some o := gset_same
@[simp] theorem gset_gset {g : G} {a : Addr} {o o' : O} : gset (gset g a o) a o' = gset g a o' := by
  funext b
  by_cases h : b = a
  · subst h; rw [gset_same, gset_same]
  · rw [gset_ne h, gset_ne h, gset_ne h]
theorem gdel_gset {g : G} {a : Addr} {o : O} (h : g a = none) : gdel (gset g a o) a = g := by
  funext b
  by_cases q : b = a
  · subst q; rw [gdel_same, h]
  · rw [gdel_ne q, gset_ne q]
section
variable {B : Bs} {F : Hp} {ρ : Rho} {g : G} {σ : L2.St} {H : Hp}
theorem Rl.lock (R : Rl B F ρ g σ H) {i : Nat} {a : Addr} {kds : List (Key × D)} {kvs : List (Key × V)} {od : Obj} (hi : ρ[i]? = some (.val (.ref a))) (ga : g a = some (.dct kds)) (h0 : B.H0 a = none) (hH : H a = some (.dK kvs)) (nd : (kds.map (·.1)).Nodup)
    (rk : ∀ K F, RepK K F kvs kds) : Same F (upd F a (.frz od (.dK kvs))) ∧ Rl B (upd F a (.frz od (.dK kvs))) (ρ.set i (.val (mkDic kds))) (gdel g a) σ (upd H a (.frz od (.dK kvs))) := by
  obtain ⟨_, fa, _⟩ := R.gg a _ ga
  have ef : Same F (upd F a (.frz od (.dK kvs))) := fun b u e => by rw [upd_ne (ne_of_none e fa)]; exact e
  have R1 : Rl B (upd F a (.frz od (.dK kvs))) ρ (gdel g a) σ (upd H a (.frz od (.dK kvs))) := by
    refine ⟨fun b u e => ?_, R.f0.trans ef, fun b u e => ?_, fun b o e => ?_, fun b o e n => ?_, fun b o e => ?_, fun j s e => ?_, R.dj, R.ln⟩
    · by_cases hb : b = a
      · subst hb; rw [upd_same] at e ⊢; exact e
      · rw [upd_ne hb] at e ⊢; exact R.fh b u e
    · by_cases hb : b = a
      · subst hb; exact .inr h0
      · rw [upd_ne hb] at e; exact R.fn b u e
    · by_cases hb : b = a
      · subst hb; exact ⟨_, upd_same⟩
      · rw [upd_ne hb]; exact R.dm b o e
    · rw [upd_ne (fun z => by subst z; rw [h0] at e; cases e)]
      exact R.fr b o e n
    · by_cases hb : b = a
      · subst hb; rw [gdel_same] at e; cases e
      · rw [gdel_ne hb] at e
        obtain ⟨h1, h2, h3⟩ := R.gg b o e
        have na : ∀ c x, g c = some (.aux x) → c ≠ a := fun c x gc z => by subst z; rw [ga] at gc; cases gc
        exact ⟨h1.mono2 ef (fun w q => by rw [upd_ne hb]; exact q) (fun c x gc w q => by rw [upd_ne (na c x gc)]; exact q) (fun c x gc => by rw [gdel_ne (na c x gc)]; exact gc), by rw [upd_ne hb]; exact h2, h3⟩
    · have h := R.sl j s e
      cases s with
      | no => trivial
      | val d => obtain ⟨v, e1, r⟩ := h; exact ⟨v, e1, r.mono ef⟩
      | acc ds =>
        obtain ⟨p, xs, e1, f1, f2, f3, f4, f5⟩ := h
        have hpa : p ≠ a := fun q => by subst q; rw [ga] at f4; cases f4
        exact ⟨p, xs, e1, by rw [upd_ne hpa]; exact f1, f2.mono ef, by rw [upd_ne hpa]; exact f3, by rw [gdel_ne hpa]; exact f4, f5⟩
  obtain ⟨v, e1, r⟩ := R.sl i _ hi
  cases r
  have hl : i < ρ.length := (List.getElem?_eq_some_iff.mp hi).1
  have R2 := R1.set i (v := .ref a) (d := mkDic kds) (RepK.rep (rk _ _) upd_same nd)
  have es : σ.set i (some (.ref a)) = σ := by
    refine List.ext_getElem? fun j => ?_
    by_cases h : i = j
    · subst h
      rw [List.getElem?_set_self (by rw [← R.ln]; exact hl), e1]
    · rw [List.getElem?_set_ne h]
  rw [es] at R2
  exact ⟨ef, R2⟩
end
def sLock (i : Nat) (m : SM) : SM := fun DD W ρ g => match ρ[i]? with
  | some (.val (.ref a)) => ∃ kds, g a = some (.dct kds) ∧ DD.g0 a = none ∧ m DD W (ρ.set i (.val (mkDic kds))) (gdel g a)
  | _ => False
@[simp] theorem sLock_eq {i : Nat} {m : SM} {DD : SE} {W : Wi} {ρ : Rho} {g : G} : sLock i m DD W ρ g = match ρ[i]? with
  | some (.val (.ref a)) => ∃ kds, g a = some (.dct kds) ∧ DD.g0 a = none ∧ m DD W (ρ.set i (.val (mkDic kds))) (gdel g a)
  | _ => False := rfl
theorem sv_lock {X : Cx} {s : Stmt} {m : SM} {i : Nat} (h : SV X s m) : SV X s (sLock i m) := by
  intro B W hB L
  refine ⟨fun pins sh σ H D I w => ?_⟩
  obtain ⟨F, ρ, g, DD, R, w, q⟩ := w
  unfold sLock at w
  split at w
  · rename_i a hi
    obtain ⟨kds, ga, g0, w⟩ := w
    obtain ⟨r1, r2, r3⟩ := R.gg a _ ga
    have h0 : B.H0 a = none := by
      rcases r3 with ⟨o', z⟩ | z
      · rw [← q.gz, g0] at z; cases z
      · exact z
    obtain ⟨kvs, hH, nd, rk⟩ := r1.dct_inv
    obtain ⟨od, I2⟩ := I.lock hH True.intro
    obtain ⟨ef, R2⟩ := R.lock (od := od) hi ga h0 hH nd rk
    exact (h B W hB L).run pins sh σ _ D I2 ⟨_, _, _, DD, R2, w, q.mono ef⟩
  · exact w.elim
section
variable {X : Cx} {e f o : Expr} {md mk m : EM D} {pos apos cpos : Pos}
/-- len of a dict that changes -/
@[simp] def eLenT (m : EM D) : EM D := fun ρ g Q E => m ρ g (fun x g1 => match x with | .ref a => ∃ kds, g1 a = some (.dct kds) ∧ Q (.int kds.length) g1 | _ => False) E
theorem ev_lenT {p : Pos} (hg : Gl X "len") (hm : X.mg "len" = none) (ha : EV X e m) (he : starEach [e] X.env = (false, eval e X.env) :: starEach [] X.env := by rfl) (hpl : (backTo pos (starEach [] X.env)).any (·.1) = false := by rfl) :
    EV X (.Call (.Name "len" p) [e] [] pos) (eLenT m) := by
  intro B W hB L
  refine pe_mono (pe_callB call_lenD hg hm PySem.boot_len (pa_cons (ha B W hB L) pa_nil he) (by decide) (by decide) he hpl) ?_
  rintro σ H Q ⟨F, ρ, g, QD, R, w, q⟩
  refine ⟨F, ρ, g, _, R, w, ?_⟩
  intro v1 H1 F1 g1 d1 k1 R1 r1 w1
  cases d1 with
  | ref a =>
    cases r1
    obtain ⟨kds, ha, w1⟩ := w1
    obtain ⟨kvs, hH, _, rk⟩ := (R1.gg a _ ha).1.dct_inv
    refine ⟨a, kvs, rfl, hH, ?_⟩
    have := q (.int kds.length) H1 F1 g1 _ k1 R1 (.int _) w1
    rw [← (rk B.K F1).length] at this
    exact this
  | _ => exact w1.elim
end
end DL

set_option Elab.async false
set_option linter.all false
set_option maxRecDepth 100000
namespace DL
open PySem PySem.Spec PyProof.Rows L2
/-! ### a new dict that nobody else sees -/
def tND (B : Bs) (W : Wi) (m : EM (List (Key × D))) : TE := fun σ H Q => ∃ F ρ g QD, Rl B F ρ g σ H ∧ m ρ g QD (fun x g' => W x ρ g') ∧
  ∀ a kvs H' F' g' kds, Ste g H F g' H' F' → Rl B F' ρ g' σ H' → H a = none → H' a = some (.dK kvs) → F' a = none → g' a = none → B.H0 a = none →
    (∀ (i : Nat) (es : List D), ρ[i]? = some (.acc es) → σ[i]? ≠ some (some (.ref a))) → RepK B.K F' kvs kds → (kds.map (·.1)).Nodup → QD kds g' → Q (.ref a) H'
def ED (X : Cx) (e : Expr) (m : EM (List (Key × D))) : Prop := ∀ B W, B.K = X.K → Lk X B W → PE X e (tND B W m)
/-! ### {k: v for .. in ..} -/
def dcGo (τ : Tg) (mt : EM Bool) (mk mv : EM D) (ρ : Rho) : List D → List (Key × D) → G → (List (Key × D) → G → Prop) → Prop
  | [], acc, g, Q => Q acc g
  | d :: ds, acc, g, Q => match τ.bd d ρ with
    | none => False
    | some ρ' => mt ρ' g (fun k g1 => if k = true then mk ρ' g1 (fun y g2 => mv ρ' g2 (fun z g3 => match keyOf y with | some key => dcGo τ mt mk mv ρ ds (putD acc key z) g3 Q | none => False) (fun _ _ => False)) (fun _ _ => False) else dcGo τ mt mk mv ρ ds acc g1 Q) (fun _ _ => False)
def dDc (mi : EM (List D)) (τ : Tg) (mt : EM Bool) (mk mv : EM D) (own : List Nat) : EM (List (Key × D)) := fun ρ g Q E => mi ρ g (fun ds g1 => ds.length ≤ sizeLine ∧ dcGo τ mt mk mv (wipeR ρ own) ds [] g1 Q) E
theorem putD_length (kds : List (Key × D)) (k : Key) (d : D) : (putD kds k d).length ≤ kds.length + 1 := by
  unfold putD
  split <;> simp
theorem dc_w {B : Bs} {W : Wi} {τ : Tg} {mi : EM (List D)} {mt : EM Bool} {mk mv : EM D} {vs : List Nat} (hv : ∀ i ∈ τ.vs, i ∈ vs) : ∀ σ H Q, tND B W (dDc mi τ mt mk mv vs) σ H Q → tDc (iD B W mi) (τ.t B.K) (tT B (fun _ _ _ => False) mt) (tE B (fun _ _ _ => False) mk) (tE B (fun _ _ _ => False) mv) vs σ H Q := by
  rintro σ H Q ⟨F, ρ, g, QD, R, w, q⟩
  refine ⟨F, ρ, g, _, R, w, ?_⟩
  intro J H1 F1 g1 ds k1 R1 wk ⟨hz, w1⟩ Dd hD
  refine ⟨fun i m Hi => m = ds.length - i ∧ i ≤ ds.length ∧ ∃ Fi gi acc kvs, Rl B Fi (wipeR ρ vs) gi (L2.wipe σ vs) Hi ∧ Ste g1 H1 F1 gi Hi Fi ∧ Hi Dd = some (.dK kvs) ∧ RepK B.K Fi kvs acc ∧ (acc.map (·.1)).Nodup ∧ Fi Dd = none ∧ gi Dd = none ∧ acc.length ≤ i ∧
    dcGo τ mt mk mv (wipeR ρ vs) (ds.drop i) acc gi QD, ⟨ds.length, by simp, Nat.zero_le _, F1, g1, [], [], ?_, ?_, upd_same, .nil, by simp, R1.fh.free hD, R1.fresh_g hD, Nat.le_refl _, w1⟩, ?_⟩
  · exact (R1.wipe vs).gro (Gro.lay0 R1.fh hD)
  · exact (Gro.lay0 R1.fh hD).ste
  rintro i m Hi ⟨rfl, hi, Fi, gi, acc, kvs, Ri, ki, hDi, ri, nd, fD, gD, hl, wi⟩
  by_cases hlt : i < ds.length
  · refine .inr ⟨wk.goes i Hi hlt (ki.ff.trans Ri.fh), fun H' => ∃ Fi gi acc kvs, Rl B Fi (wipeR ρ vs) gi (L2.wipe σ vs) H' ∧ Ste g1 H1 F1 gi H' Fi ∧ H' Dd = some (.dK kvs) ∧ RepK B.K Fi kvs acc ∧ (acc.map (·.1)).Nodup ∧ Fi Dd = none ∧ gi Dd = none ∧ acc.length ≤ i + 1 ∧
      dcGo τ mt mk mv (wipeR ρ vs) (ds.drop (i + 1)) acc gi QD, fun H' h => ⟨ds.length - (i + 1), by omega, rfl, hlt, h⟩, fun x H' y => ?_⟩
    obtain ⟨d, Fy, hd, Gy, ry⟩ := wk.yields i Hi Fi x H' hlt ki.ff Ri.fh y
    have hdrop : ds.drop i = d :: ds.drop (i + 1) := by
      rw [List.drop_eq_getElem_cons hlt]
      rw [List.getElem?_eq_getElem hlt] at hd
      rw [Option.some.inj hd]
    rw [hdrop] at wi
    unfold dcGo at wi
    have Ry := Ri.gro Gy
    have dead : ∀ {g' : G} {H' F' : Hp}, Ste gi Hi Fi g' H' F' → H' Dd = some (.dK kvs) ∧ g' Dd = none ∧ F' Dd = none := fun {g' H' F'} k => by
      obtain ⟨z1, z2⟩ := k.kp Dd _ hDi gD
      refine ⟨z1, z2, ?_⟩
      cases z : F' Dd with
      | none => rfl
      | some u =>
        rcases k.fn Dd u z with z' | z'
        · rw [fD] at z'; cases z'
        · rw [hDi] at z'; cases z'
    cases hb : τ.bd d (wipeR ρ vs) with
    | none => rw [hb] at wi; exact wi.elim
    | some ρ' =>
      rw [hb] at wi
      refine tg_w Ry ry hb fun σ2 R2 hw => ⟨?_, ?_⟩
      · rw [hw vs hv, wipe_wipe]
      refine ⟨Fy, ρ', gi, _, R2, wi, ?_⟩
      intro k H3 F3 g3 k3 R3 w3
      have k13 : Ste gi Hi Fi g3 H3 F3 := Gy.ste.trans k3
      cases k with
      | false =>
        rw [if_neg Bool.false_ne_true] at w3 ⊢
        obtain ⟨hD3, gD3, fD3⟩ := dead k13
        exact ⟨F3, g3, acc, kvs, Ri.backA R3 k13, ki.trans k13, hD3, ri.mono k13.ff, nd, fD3, gD3, by omega, w3⟩
      | true =>
        rw [if_pos rfl] at w3 ⊢
        refine ⟨F3, ρ', g3, _, R3, w3, ?_⟩
        intro v4 H4 F4 g4 d4 k4 R4 r4 w4
        have k14 := k13.trans k4
        refine ⟨F4, ρ', g4, _, R4, w4, ?_⟩
        intro v5 H5 F5 g5 d5 k5 R5 r5 w5
        have k15 := k14.trans k5
        obtain ⟨hD4, gD4, fD4⟩ := dead k15
        cases hy : keyOf d4 with
        | none => rw [hy] at w5; exact w5.elim
        | some key =>
          rw [hy] at w5
          obtain ⟨rfl, _⟩ := key_rep r4 hy
          have hp := putD_length acc key d5
          refine ⟨kvs, key, rfl, hD4, by rw [ri.length]; omega, F5, g5, putD acc key d5, putK kvs key v5, ?_, ?_, upd_same, (ri.mono k15.ff).put key r5, putD_nodup nd, fD4, gD4, by omega, w5⟩
          · exact (Ri.backA R5 k15).own_upd (R1.fresh_0 hD) gD4 fD4 ((R1.wipe vs).fresh_s hD)
          · refine ⟨(ki.trans k15).ff, fun a o e n => ?_, fun a o e => ?_, (ki.trans k15).fn⟩
            · rw [upd_ne (ne_of_none e hD)]
              exact (ki.trans k15).kp a o e n
            · rw [upd_ne (ne_of_none e hD)]
              exact (ki.trans k15).dm a o e
  · have e : i = ds.length := by omega
    subst e
    rw [List.drop_length] at wi
    refine .inl ⟨wk.stops Hi (ki.ff.trans Ri.fh), ?_⟩
    exact q Dd kvs Hi Fi gi acc (k1.trans ki) (R1.backA Ri ki) (k1.none hD) hDi fD gD (R1.fresh_0 hD) (R1.fresh_s hD) ri nd wi
section
variable {X : Cx} {e : Expr} {pos p : Pos}
theorem ed_dc {kx vx tg iter : Expr} {ifs : List Expr} {scope : Scope} {own : List (Str × Nat)} {τ : Tg} {mi : EM (List D)} {mt : EM Bool} {mk mv : EM D} (hc : X.calm = true) (hN : X.N.Nodup) (hi : EI X tg iter mi) (ok : BlkOk X.N X.env.scope scope own)
    (hg : ∀ (s : Shared) (H : Hp) (C : Addr) (cl : List (Str × Addr)) (fp : List Addr), EG (X.blk s H scope (compEnvC scope cl C X.env) fp) tg τ) (ht : ∀ (s : Shared) (H : Hp) (C : Addr) (cl : List (Str × Addr)) (fp : List Addr), ETs (X.blk s H scope (compEnvC scope cl C X.env) fp) ifs mt)
    (hk : ∀ (s : Shared) (H : Hp) (C : Addr) (cl : List (Str × Addr)) (fp : List Addr), EV (X.blk s H scope (compEnvC scope cl C X.env) fp) kx mk)
    (he : ∀ (s : Shared) (H : Hp) (C : Addr) (cl : List (Str × Addr)) (fp : List Addr), EV (X.blk s H scope (compEnvC scope cl C X.env) fp) vx mv) (hv : ∀ i ∈ τ.vs, i ∈ own.map (·.2) := by decide) (hs : ∀ x, foldedSetIterable iter X.env x = pure x := by intro _; rfl) :
    ED X (.DictComp kx vx [⟨tg, iter, ifs, 0⟩] scope pos) (dDc mi τ mt mk mv (own.map (·.2))) := by
  intro B W hB L
  exact pe_mono (pe_dc (g := τ.t B.K) hc hN (hi B W hB L) ok (fun s H C cl fp => by rw [hB]; exact hg s H C cl fp) (fun s H C cl fp => ht s H C cl fp B (fun _ _ _ => False) hB lk_false) (fun s H C cl fp => hk s H C cl fp B (fun _ _ _ => False) hB lk_false) (fun s H C cl fp => he s H C cl fp B (fun _ _ _ => False) hB lk_false) hs) (dc_w hv)
/-- dict(a list of pairs) -/
@[simp] def dPairs (m : EM D) : EM (List (Key × D)) := fun ρ g Q E => m ρ g (fun x g1 => match x with | .lst ps => (match pairsOf ps with | some kds => Q (mergeD [] kds) g1 | none => False) | _ => False) E
theorem ed_pairs {m : EM D} (hc : X.calm = true) (hg : Gl X "dict") (hm : X.mg "dict" = none) (ha : EV X e m) (he : starEach [e] X.env = (false, eval e X.env) :: starEach [] X.env := by rfl) (hpl : (backTo pos (starEach [] X.env)).any (·.1) = false := by rfl)
    (hv : bootBuiltins "dict" = some (.type "dict") := by decide +kernel) : ED X (.Call (.Name "dict" p) [e] [] pos) (dPairs m) := by
  intro B W hB L
  refine pe_mono (pe_callTy (call_dictP hc) hg hm hv (pa_cons (ha B W hB L) pa_nil he) (by decide) (by decide) he hpl) ?_
  rintro σ H Q ⟨F, ρ, g, QD, R, w, q⟩
  refine ⟨F, ρ, g, _, R, w, ?_⟩
  intro v1 H1 F1 g1 d1 k1 R1 r1 w1
  cases d1 with
  | lst ps =>
    cases hp : pairsOf ps with
    | none => simp only [hp] at w1
    | some kds =>
      simp only [hp] at w1
      cases r1 with
      | @lst a vs _ hs hr =>
        obtain ⟨as, kvs, rfl, pp, rk⟩ := pairsOf_rep hr hp
        refine ⟨a, as, kvs, rfl, by rw [← hB]; exact R1.fh.seq hs, paired_mono (fun _ _ z => by rw [← hB]; exact same_sqT R1.fh z) pp, fun p hp => ?_⟩
        have G1 := Gro.lay0 (o := .dK (mergeK [] kvs)) R1.fh hp
        exact q p _ _ F1 g1 _ (k1.trans G1.ste) (R1.gro G1) (k1.none hp) upd_same (R1.fh.free hp) (R1.fresh_g hp) (R1.fresh_0 hp) (R1.fresh_s hp) (RepK.merge rk .nil) (mergeD_nodup (by simp)) w1
  | _ => exact w1.elim
/-- {} -/
@[simp] def dNil : EM (List (Key × D)) := fun _ g Q _ => Q [] g
theorem ed_nil : ED X (.Dict [] [] pos) dNil := by
  intro B W hB L
  refine pe_mono pe_dnewK ?_
  rintro σ H Q ⟨F, ρ, g, QD, R, w, q⟩
  intro p hp
  have G1 := Gro.lay0 (o := .dK []) R.fh hp
  exact q p _ _ F g _ G1.ste (R.gro G1) hp upd_same (R.fh.free hp) (R.fresh_g hp) (R.fresh_0 hp) (R.fresh_s hp) .nil (by simp) w
/-! ### it stays | it is tracked -/
@[simp] def eDfz (m : EM (List (Key × D))) : EM D := fun ρ g Q E => m ρ g (fun kds g1 => Q (mkDic kds) g1) E
theorem ev_dfz {m : EM (List (Key × D))} (h : ED X e m) : EV X e (eDfz m) := by
  intro B W hB L
  refine ⟨fun pins s σ H Q I w => ?_⟩
  obtain ⟨F, ρ, g, QD, R, w, q⟩ := w
  refine thn ((h B W hB L).run pins s σ H (fun x H1 => ∃ p kvs, x = .ref p ∧ H1 p = some (.dK kvs) ∧ ∀ od, Q (.ref p) (upd H1 p (.frz od (.dK kvs)))) I ⟨F, ρ, g, _, R, w, ?_⟩) ?_
  · intro a kvs H' F' g' kds k1 R1 hn h1 f1 g1 h0 hs rk nd w1
    refine ⟨a, kvs, rfl, h1, fun od => ?_⟩
    have ef : Same F' (upd F' a (.frz od (.dK kvs))) := fun b u e => by rw [upd_ne (ne_of_none e f1)]; exact e
    refine q _ _ _ g' _ ⟨fun b u e => ef b u (k1.ff b u e), fun b u e n => ?_, fun b u e => ?_, fun b u e => ?_⟩ (R1.lay1 f1 g1 h0 hs) (RepK.rep (rk.mono ef) upd_same nd) w1
    · have hb : b ≠ a := ne_of_none e hn
      rw [upd_ne hb]; exact k1.kp b u e n
    · have hb : b ≠ a := ne_of_none e hn
      rw [upd_ne hb]; exact k1.dm b u e
    · by_cases hb : b = a
      · subst hb; exact .inr hn
      · rw [upd_ne hb] at e; exact k1.fn b u e
  · rintro u s1 ⟨x, H1, I1, r1, p, kvs, rfl, hp, q1⟩
    obtain ⟨od, I2⟩ := I1.lock hp True.intro
    exact ⟨.ref p, _, I2, r1, q1 od⟩
def atomsK (kds : List (Key × D)) : Bool := kds.all fun kd => atomD kd.2
theorem RepK.atoms {K : PySem.W.Frag} {F : Hp} {kvs : List (Key × V)} {kds : List (Key × D)} (h : RepK K F kvs kds) (a : atomsK kds = true) : ∀ K' F', RepK K' F' kvs kds := by
  induction h with
  | nil => exact fun _ _ => .nil
  | cons r _ ih =>
    simp only [atomsK, List.all_cons, Bool.and_eq_true] at a
    exact fun K' F' => .cons (atom_rep a.1 r K' F') (ih a.2 K' F')
@[simp] def eDtrk (m : EM (List (Key × D))) : EM D := fun ρ g Q E => m ρ g (fun kds g1 => atomsK kds = true ∧ ∀ a, g1 a = none → g a = none → Q (.ref a) (gset g1 a (.dct kds))) E
theorem Rl.trk1 {B : Bs} {F : Hp} {ρ : Rho} {g : G} {σ : L2.St} {H : Hp} (R : Rl B F ρ g σ H) {a : Addr} {kvs : List (Key × V)} {kds : List (Key × D)} (hH : H a = some (.dK kvs)) (fa : F a = none) (ga : g a = none) (h0 : B.H0 a = none)
    (hs : ∀ (i : Nat) (es : List D), ρ[i]? = some (.acc es) → σ[i]? ≠ some (some (.ref a))) (nd : (kds.map (·.1)).Nodup) (rk : ∀ K F, RepK K F kvs kds) : Rl B F ρ (gset g a (.dct kds)) σ H := by
  refine ⟨R.fh, R.f0, R.fn, R.dm, R.fr, fun b o e => ?_, fun i s e => ?_, R.dj, R.ln⟩
  · by_cases hb : b = a
    · subst hb
      rw [gset_same] at e
      cases e
      exact ⟨RepO.dct B F hH nd rk, fa, .inr h0⟩
    · rw [gset_ne hb] at e
      obtain ⟨q1, q2, q3⟩ := R.gg b o e
      exact ⟨q1.mono2 (Same.refl F) (fun _ q => q) (fun _ _ _ _ q => q) (fun c x gc => by rw [gset_ne (fun z => by subst z; rw [ga] at gc; cases gc)]; exact gc), q2, q3⟩
  · have h := R.sl i s e
    cases s with
    | no => trivial
    | val d => exact h
    | acc ds =>
      obtain ⟨p, xs, e1, f1, f2, f3, f4, f5⟩ := h
      exact ⟨p, xs, e1, f1, f2, f3, by rw [gset_ne (fun q => by subst q; exact hs i ds e e1)]; exact f4, f5⟩
theorem tND_trk {B : Bs} {W : Wi} {m : EM (List (Key × D))} : ∀ σ H Q, tE B W (eDtrk m) σ H Q → tND B W m σ H Q := by
  rintro σ H Q ⟨F, ρ, g, QD, R, w, q⟩
  refine ⟨F, ρ, g, _, R, w, ?_⟩
  intro a kvs H' F' g' kds k1 R1 hn h1 f1 g1 h0 hs rk nd ⟨at1, w1⟩
  refine q (.ref a) H' F' (gset g' a (.dct kds)) _ ⟨k1.ff, fun b o e n => ?_, k1.dm, k1.fn⟩ (R1.trk1 h1 f1 g1 h0 hs nd (rk.atoms at1)) (.ref a) (w1 a g1 (R.fresh_g hn))
  obtain ⟨z1, z2⟩ := k1.kp b o e n
  exact ⟨z1, by rw [gset_ne (ne_of_none e hn)]; exact z2⟩
theorem ev_dtrk {m : EM (List (Key × D))} (h : ED X e m) : EV X e (eDtrk m) := fun B W hB L => pe_mono (h B W hB L) tND_trk
/-! ### name = {k: v for ..} on one line -/
theorem sw_trueD {kx vx : Expr} {gs : List Comprehension} {scope : Scope} {pos py : Pos} {y : Str} {l : Nat} {env : Env} (hk : env.scope.kind = .function) (hy : env.scope.names.lookup y = some .local) (hl : (py.line == pos.line) = true)
    (ha : (scope.names.any fun (n, k) => n == y && (k == .local || k == .cell)) = false) : swapsWith (.DictComp kx vx gs scope pos) (some (.Name y py)) l env = pure true := by
  have ky : env.kindOf y = some .local := hy
  have hb : env.blockKind = .function := by unfold Env.blockKind; rw [hk]; rfl
  unfold swapsWith
  simp only [hb, ky, ha, Expr.pos, hl]
  rfl
theorem ps_setDc {i : Nat} {y : Str} {py : Pos} {kx vx tg iter : Expr} {ifs : List Expr} {scope : Scope} {own : List (Str × Nat)} {spos : Pos} {wi : TI} {g : TG} {tt : TT} {tk tv : TE} (hc : X.calm = true) (hN : X.N.Nodup) (hy : X.N[i]? = some y) (hyl : X.env.scope.names.lookup y = some .local)
    (hsw : swapsWith (.DictComp kx vx [⟨tg, iter, ifs, 0⟩] scope pos) (some (.Name y py)) spos.line X.env = pure true) (hi : PI X tg iter wi) (ok : BlkOk X.N X.env.scope scope own)
    (hg : ∀ (s : Shared) (H : Hp) (C : Addr) (cl : List (Str × Addr)) (fp : List Addr), PG (X.blk s H scope (compEnvC scope cl C X.env) fp) tg g) (ht : ∀ (s : Shared) (H : Hp) (C : Addr) (cl : List (Str × Addr)) (fp : List Addr), PTs (X.blk s H scope (compEnvC scope cl C X.env) fp) ifs tt)
    (hk : ∀ (s : Shared) (H : Hp) (C : Addr) (cl : List (Str × Addr)) (fp : List Addr), PE (X.blk s H scope (compEnvC scope cl C X.env) fp) kx tk)
    (he : ∀ (s : Shared) (H : Hp) (C : Addr) (cl : List (Str × Addr)) (fp : List Addr), PE (X.blk s H scope (compEnvC scope cl C X.env) fp) vx tv) (hs : ∀ x, foldedSetIterable iter X.env x = pure x := by intro _; rfl) :
    PS X (.Assign [.Name y py] (.DictComp kx vx [⟨tg, iter, ifs, 0⟩] scope pos) spos) (tAsg (tDc wi g tt tk tv (own.map (·.2))) (gName i)) := by
  refine ⟨fun pins s σ H D I h => ?_⟩
  rw [exec_Assign_Name_used _ _ _ _ hsw]
  refine wpAny_bind (wpAny_standAt (wpAny_bind ?_))
  show wpAny _ X.A (do let _ ← comprehension (.DictComp kx vx [⟨tg, iter, ifs, 0⟩] scope pos) scope X.env (firstIterPos [⟨tg, iter, ifs, 0⟩] pos) newDict false (eval iter X.env) (some (assign (.Name y py) X.env))) _ _ s
  have h : tDc wi g tt tk tv (own.map (·.2)) σ H (fun x H1 => gName i x σ H1 D.nx) := h
  refine wpAny_bind (thn (dc_core (Qf := fun _ s' => SP X pins D .next s') hc hN I hi ok hg ht hk he hs h fun L C s' m H' I' q hn f => ?_) fun _ s' hq => wpAny_pure (wpAny_pure hq))
  show wpAny _ _ (assign (.Name y py) X.env (.ref L)) _ _ _
  refine wpAny_assign_Name (store_ok2 (v := V.ref L) I' hN hy (.inl hyl) rfl (fun s2 I2 ⟨a, sb, ha⟩ => ?_) (.inr hyl))
  obtain ⟨f0, f1, f2, f3, f4, f5⟩ := f
  have haC : C ≠ a := by
    rcases ha with z | z
    · rw [z]; exact f1
    · exact fun e => f4 y a z e.symm
  refine ⟨m, hn.sameBut sb haC, fun h3 sb3 => ?_⟩
  exact ⟨_, H', I2.turned (t' := s2.toks) (fun b o hb e => (sb3.2 b hb).trans e) f0 f1 f3 f4 f5, q⟩
theorem sv_setDc {i : Nat} {y : Str} {py : Pos} {kx vx tg iter : Expr} {ifs : List Expr} {scope : Scope} {own : List (Str × Nat)} {spos : Pos} {τ : Tg} {mi : EM (List D)} {mt : EM Bool} {mk mv : EM D} (hc : X.calm = true) (hN : X.N.Nodup)
    (hi : EI X tg iter mi) (ok : BlkOk X.N X.env.scope scope own)
    (hg : ∀ (s : Shared) (H : Hp) (C : Addr) (cl : List (Str × Addr)) (fp : List Addr), EG (X.blk s H scope (compEnvC scope cl C X.env) fp) tg τ) (ht : ∀ (s : Shared) (H : Hp) (C : Addr) (cl : List (Str × Addr)) (fp : List Addr), ETs (X.blk s H scope (compEnvC scope cl C X.env) fp) ifs mt)
    (hk : ∀ (s : Shared) (H : Hp) (C : Addr) (cl : List (Str × Addr)) (fp : List Addr), EV (X.blk s H scope (compEnvC scope cl C X.env) fp) kx mk)
    (he : ∀ (s : Shared) (H : Hp) (C : Addr) (cl : List (Str × Addr)) (fp : List Addr), EV (X.blk s H scope (compEnvC scope cl C X.env) fp) vx mv)
    (hsw : swapsWith (.DictComp kx vx [⟨tg, iter, ifs, 0⟩] scope pos) (some (.Name y py)) spos.line X.env = pure true)
    (hy : X.N[i]? = some y := by rfl) (hyl : X.env.scope.names.lookup y = some .local := by rfl)
    (hv : ∀ i ∈ τ.vs, i ∈ own.map (·.2) := by decide) (hs : ∀ x, foldedSetIterable iter X.env x = pure x := by intro _; rfl) :
    SV X (.Assign [.Name y py] (.DictComp kx vx [⟨tg, iter, ifs, 0⟩] scope pos) spos) (sSet i (eDtrk (dDc mi τ mt mk mv (own.map (·.2))))) := by
  intro B W hB L
  refine ps_mono (ps_setDc (i := i) (g := τ.t B.K) hc hN hy hyl hsw (hi B W hB L) ok (fun s H C cl fp => by rw [hB]; exact hg s H C cl fp) (fun s H C cl fp => ht s H C cl fp B (fun _ _ _ => False) hB lk_false) (fun s H C cl fp => hk s H C cl fp B (fun _ _ _ => False) hB lk_false) (fun s H C cl fp => he s H C cl fp B (fun _ _ _ => False) hB lk_false) hs) ?_
  rintro D σ H ⟨F, ρ, g, DD, R, w, q⟩
  refine dc_w hv σ H _ (tND_trk σ H _ ⟨F, ρ, g, _, R, w, ?_⟩)
  intro v H' F' g' d k R' r w'
  exact q.nx _ H' F' _ g' k.ff (R'.set i r) w'
end
end DL

set_option Elab.async false
set_option linter.all false
set_option maxRecDepth 100000
/-! DL40: ==, != of values that hold dicts. -/
namespace PySem.SeqAt
open AutoSeq1 (wpAny_loadPart')
open MeetsSeq MeetsSeq2 MeetsSeq3 SeqRoads2
section
variable {P : Program} {w : World}
theorem tuple_neIn (p q : Addr) (us vs : Array Value) (n m : Nat) (dp dq : Option Addr) (sp sq : Array (Option Value)) (e : Nat → Bool) :
    MeetsIn P w (Builtin.«tuple.__ne__» ⟨[.ref p, .ref q], []⟩) (fun A R s => s.heap.get? p = some { cls := .type "tuple", dict := dp, data := .seq us n, slots := sp } ∧ s.heap.get? q = some { cls := .type "tuple", dict := dq, data := .seq vs m, slots := sq } ∧
      (∀ j (h1 : j < us.size) (h2 : j < vs.size), EqIn P w A.in1 s us[j] vs[j] (e j)) ∧ R (.ok (.ret (.bool (!((List.range (min us.size vs.size)).all e && us.size == vs.size))))) s) :=
  .of_wp fun A R s h => by
    obtain ⟨hp, g, d, tk, os⟩ := s; obtain ⟨hl, hb, he, h⟩ := h; have f2 := AutoSeq1.sub_tuple_tuple
    have hZ : (us.toList.zip vs.toList).length = min us.size vs.size := by simp
    wp_walk using wpAny_loadPart' hl, wpAny_loadPart' hb, wpAny_forIn_list _ (fun rest b s' => b.1 = none ∧ s' = ⟨hp, g, d, tk, os⟩ ∧ ∃ i, rest = (us.toList.zip vs.toList).drop i ∧ R (.ok (.ret (.bool (!(((List.range (min us.size vs.size)).drop i).all e && us.size == vs.size))))) ⟨hp, g, d, tk, os⟩) _
    case turn =>
      rintro ⟨y, x⟩ rest b s' ⟨hb', rfl, i, hz, hR⟩
      have hlt : i < (us.toList.zip vs.toList).length := Nat.lt_of_not_le fun h' => by rw [List.drop_of_length_le h'] at hz; cases hz
      have hm : i < min us.size vs.size := hZ ▸ hlt
      have k1 : i < us.size := Nat.lt_of_lt_of_le hm (Nat.min_le_left _ _)
      have k2 : i < vs.size := Nat.lt_of_lt_of_le hm (Nat.min_le_right _ _)
      rw [List.drop_eq_getElem_cons hlt] at hz; injection hz with hyx hrest
      obtain rfl : y = us[i] := by have z := congrArg Prod.fst hyx; simpa using z
      obtain rfl : x = vs[i] := by have z := congrArg Prod.snd hyx; simpa using z
      have hd : (List.range (min us.size vs.size)).drop i = i :: (List.range (min us.size vs.size)).drop (i + 1) := by simp [List.drop_eq_getElem_cons, hm]
      rw [hd, List.all_cons] at hR; refine wpAny_bind (he i k1 k2 _ _ ?_)
      cases hy : e i with
      | true => rw [hy] at hR; wp_walk; exact ⟨rfl, rfl, i + 1, hrest, by simpa using hR⟩
      | false => rw [hy] at hR; wp_walk; exact ⟨_, rfl, by simpa using hR⟩
    case fin =>
      rintro ⟨b1, b2⟩ s' ⟨hb', rfl, i, hz, hR⟩
      simp only at hb'; subst hb'
      have hge : min us.size vs.size ≤ i := Nat.le_of_not_lt fun h' => by rw [← hZ] at h'; rw [List.drop_eq_getElem_cons h'] at hz; cases hz
      rw [List.drop_of_length_le (by simpa using hge)] at hR; wp_walk; exact ⟨_, rfl, by simpa [Builtin.Tuple.tupleCompareSizes, bne] using hR⟩
    case h => exact ⟨rfl, rfl, 0, rfl, by simpa using h⟩
theorem ne_loopIn (p q : Addr) (us vs : Array Value) (n m : Nat) (dp dq : Option Addr) (sp sq : Array (Option Value)) (hs : us.size = vs.size) (e : Nat → Bool) : ∀ (k i : Nat), us.size - i = k →
    MeetsIn P w (Builtin.«list.__eq__.loop» ⟨[.ref p, .ref q, rawInt i, rawInt 3], []⟩) (fun A R s => s.heap.get? p = some { cls := .type "list", dict := dp, data := .seq us n, slots := sp } ∧ s.heap.get? q = some { cls := .type "list", dict := dq, data := .seq vs m, slots := sq } ∧
      (∀ j (h1 : j < us.size) (h2 : j < vs.size), EqIn P w A.in1 s us[j] vs[j] (e j)) ∧ R (.ok (.ret (.bool (!((List.range us.size).drop i).all e)))) s)
  | 0, i, hk => by
    intro A R s h; obtain ⟨hp, g, d, tk, os⟩ := s; obtain ⟨hl, hb, he, h⟩ := h; wp_walk using wpAny_loadPart' hl, wpAny_loadPart' hb
    have z1 : us[((i : Nat) : Int).toNat]? = none := by (simp; omega)
    have z2 : vs[((i : Nat) : Int).toNat]? = none := by (simp; omega)
    have z3 : (List.range us.size).drop i = [] := by (simp; omega)
    rw [z3] at h; rw [z1, z2]; wp_walk using wpAny_loadPart' hl, wpAny_loadPart' hb
    show R (.ok (.ret (.bool (us.size != vs.size)))) _
    rw [hs]; simpa using h
  | k + 1, i, hk => by
    intro A R s h; obtain ⟨hp, g, d, tk, os⟩ := s; obtain ⟨hl, hb, he, h⟩ := h; wp_walk using wpAny_loadPart' hl, wpAny_loadPart' hb
    have y1 : i < us.size := by omega
    have y2 : i < vs.size := by omega
    have z1 : us[((i : Nat) : Int).toNat]? = some us[i] := by simp [y1]
    have z2 : vs[((i : Nat) : Int).toNat]? = some vs[i] := by simp [y2]
    have z3 : (List.range us.size).drop i = i :: (List.range us.size).drop (i + 1) := by simp [List.drop_eq_getElem_cons, y1]
    have z4 : ((i : Int) + 1) = ((i + 1 : Nat) : Int) := by (push_cast; rfl)
    rw [z3, List.all_cons] at h; rw [z1, z2]; refine wpAny_bind (he i y1 y2 _ _ ?_)
    cases z5 : e i with
    | true =>
      rw [z5] at h; wp_walk; rw [z4]
      exact ⟨plainId_quiet plain_eq_loop _, codeAny_builtin entry_eq_loop (by rw [Around.under_plainId plain_eq_loop _]; exact ne_loopIn p q us vs n m dp dq sp sq hs e k (i + 1) (by omega) A R _ ⟨hl, hb, he, by simpa using h⟩)⟩
    | false => rw [z5] at h; wp_walk using wpAny_loadPart' hl, wpAny_loadPart' hb; rw [z1, z2]; wp_walk; simpa using h
theorem list_neIn (p q : Addr) (us vs : Array Value) (n m : Nat) (dp dq : Option Addr) (sp sq : Array (Option Value)) (hs : us.size = vs.size) (e : Nat → Bool) :
    MeetsIn P w (Builtin.«list.__ne__» ⟨[.ref p, .ref q], []⟩) (fun A R s => s.heap.get? p = some { cls := .type "list", dict := dp, data := .seq us n, slots := sp } ∧ s.heap.get? q = some { cls := .type "list", dict := dq, data := .seq vs m, slots := sq } ∧
      (∀ j (h1 : j < us.size) (h2 : j < vs.size), EqIn P w A.in1 s us[j] vs[j] (e j)) ∧ R (.ok (.ret (.bool (!(List.range us.size).all e)))) s) := by
  intro A R s h; obtain ⟨hp, g, d, tk, os⟩ := s; obtain ⟨hl, hb, he, h⟩ := h; have f3 := AutoSeq1.sub_list_list
  have hne : ¬ (us.size != vs.size) = true := by simp [hs]
  wp_walk using wpAny_loadPart' hl, wpAny_loadPart' hb
  exact ⟨plainId_quiet plain_eq_loop _, codeAny_builtin entry_eq_loop (by rw [Around.under_plainId plain_eq_loop _]; exact ne_loopIn p q us vs n m dp dq sp sq hs e _ 0 rfl A R _ ⟨hl, hb, he, by simpa using h⟩)⟩
end
section
variable {P : Program} {w : World} {A : Around} {s : Shared} {E : Value → Shared → Prop} {Q : Value → Shared → Prop}
theorem rcNeIn_lists {p q : Addr} {us vs : Array Value} {e : Nat → Bool} (hl : s.heap.IsList p us) (hb : s.heap.IsList q vs) (hs : us.size = vs.size) (hu : A.units < cLine) (he : ∀ j (h1 : j < us.size) (h2 : j < vs.size), EqIn P w A.in1 s us[j] vs[j] (e j))
    (h : Q (.bool (!(List.range us.size).all e)) s) : wpAny (model P w) A (richCompare .NotEq (.ref p) (.ref q)) Q E s := by
  obtain ⟨⟨c1, d1, t1, l1⟩, ho, hc, n, hd⟩ := id hl
  obtain ⟨⟨c2, d2, t2, l2⟩, ho2, hc2, m, hd2⟩ := id hb
  cases hc; cases hd; cases hc2; cases hd2
  exact wpAny_richCompare_same_room (T := "list") (op := .NotEq) ⟨_, ho, rfl⟩ ⟨_, ho2, rfl⟩ F.slot_list_ne (call_meetsIn F.slot_list_ne ⟨_, ho, rfl⟩ F.entry_list_ne (F.args_list_ne_2 _ _) (list_neIn p q us vs n m d1 d2 l1 l2 hs e)
    ⟨ho, ho2, he, ⟨(fun x => nomatch x), h⟩⟩) hu
theorem rcNeIn_tuples {p q : Addr} {us vs : Array Value} {e : Nat → Bool} (hl : s.heap.IsTuple p us) (hb : s.heap.IsTuple q vs) (hu : A.units < cLine) (he : ∀ j (h1 : j < us.size) (h2 : j < vs.size), EqIn P w A.in1 s us[j] vs[j] (e j))
    (h : Q (.bool (!((List.range (min us.size vs.size)).all e && us.size == vs.size))) s) : wpAny (model P w) A (richCompare .NotEq (.ref p) (.ref q)) Q E s := by
  obtain ⟨⟨c1, d1, t1, l1⟩, ho, hc, n, hd⟩ := id hl
  obtain ⟨⟨c2, d2, t2, l2⟩, ho2, hc2, m, hd2⟩ := id hb
  cases hc; cases hd; cases hc2; cases hd2
  exact wpAny_richCompare_same_room (T := "tuple") (op := .NotEq) ⟨_, ho, rfl⟩ ⟨_, ho2, rfl⟩ F.slot_tuple_ne (call_meetsIn F.slot_tuple_ne ⟨_, ho, rfl⟩ F.entry_tuple_ne (F.args_tuple_ne_2 _ _) (tuple_neIn p q us vs n m d1 d2 l1 l2 e)
    ⟨ho, ho2, he, ⟨(fun x => nomatch x), h⟩⟩) hu
end
end PySem.SeqAt
namespace PySem.W
section
variable {P : Program} {w : World} {K : Type} [DecidableEq K] {knd : KeyKind P w K} {A : Around} {E : Value → Shared → Prop} {s : Shared}
theorem keq_neIn {a b : Addr} {ka kb : List (K × Value)} {r : Bool} {Q : Value → Shared → Prop} (ha : (a == sysModules) = false) (hb : (b == sysModules) = false) (da : s.heap.DictOf knd a ka) (db : s.heap.DictOf knd b kb) (hu : A.units < cLine)
    (hits : ka.length = kb.length → KeqHitsIn P w A.in1 s kb ka r) (h : Q (.bool (!(ka.length == kb.length && r))) s) : wpAny (model P w) A (compareOp .NotEq (.ref a) (.ref b)) Q E s := by
  refine wpAny_richCompare_same_room (op := .NotEq) da.typeIs db.typeIs PySem.F.slot_dict_ne (wpAny_call_entry PySem.F.slot_dict_ne da.typeIs PySem.F.entry_dict_ne (wpAny_bind (m := Builtin.Dict.dictSlotArgs "__ne__" ⟨[.ref a, .ref b], []⟩) ?_) (PySem.F.args_dict_ne_2 _ _)) hu
  unfold Builtin.Dict.dictSlotArgs
  refine wpAny_bind (wpAny_notOrdered_dict da.typeIs (wpAny_pure (wpAny_bind (wpAny_isInstance (T := "dict") db.typeIs PySem.F.sub_dict_dict ?_))))
  simp only [Bool.not_true, Bool.false_eq_true, if_false]
  exact wpAny_bind (wpAny_pure (wpAny_bind (wpAny_pure (wpAny_bind (keq_samePairsIn ha hb da db hits (wpAny_pure ⟨_, rfl, (fun x => nomatch x), by simpa using h⟩))))))
end
end PySem.W

set_option Elab.async false
set_option linter.all false
set_option maxRecDepth 100000
namespace DL
open PySem PySem.Spec PyProof.Rows L2
/-! ### what == answers -/
def deqAll (f : D → D → Option Bool) : List D → List D → Option Bool
  | x :: xs, y :: ys => match f x y with
    | some a => (deqAll f xs ys).map (a && ·)
    | none => none
  | _, _ => some true
def deqKeys (f : D → D → Option Bool) (kes : List (Key × D)) : List (Key × D) → Option Bool
  | [] => some true
  | kd :: r => match getK kes kd.1 with
    | none => (deqKeys f kes r).map fun _ => false
    | some e => match f kd.2 e with
      | some a => (deqKeys f kes r).map (a && ·)
      | none => none
def seqT : D → Option (List D)
  | .tup ds => some ds
  | .ptp ds => some ds
  | _ => none
def deqIn (f : D → D → Option Bool) (x y : D) : Option Bool := match seqT x, seqT y with
  | some ds, some es => (deqAll f ds es).map (· && ds.length == es.length)
  | _, _ => match x, y with
    | .lst ds, .lst es => if ds.length = es.length then deqAll f ds es else some false
    | .dic ks ds, .dic ls es => (deqKeys f (ls.zip es) (ks.zip ds)).map (ks.length == ls.length && ·)
    | _, _ => none
def deqOk (n : Nat) (x y : D) : Bool := pok x && pok y && (dep n x || dep n y)
def deq : Nat → D → D → Option Bool
  | 0, x, y => if deqOk 0 x y = true then some (PyData.eqv (py x) (py y)) else none
  | n + 1, x, y => if deqOk (n + 1) x y = true then some (PyData.eqv (py x) (py y)) else deqIn (deq n) x y
theorem deqAll_some {f : D → D → Option Bool} : ∀ {ds es : List D} {b : Bool}, deqAll f ds es = some b → ∃ e : Nat → Bool, (∀ (j : Nat) (d d' : D), ds[j]? = some d → es[j]? = some d' → f d d' = some (e j)) ∧ b = (List.range (min ds.length es.length)).all e
  | [], es, b, h => by
    rw [deqAll] at h <;> first | (cases h; exact ⟨fun _ => true, fun j d d' z => by simp at z, by simp⟩) | (intro _ _ _ _ z; cases z)
  | d :: ds, [], b, h => by
    rw [deqAll] at h <;> first | (cases h; exact ⟨fun _ => true, fun j d d' _ z => by simp at z, by simp⟩) | (intro _ _ _ _ _ z; cases z)
  | d :: ds, d' :: es, b, h => by
    rw [deqAll] at h
    cases h1 : f d d' with
    | none => rw [h1] at h; cases h
    | some a =>
      rw [h1] at h
      cases h2 : deqAll f ds es with
      | none => rw [h2] at h; cases h
      | some c =>
        rw [h2] at h
        cases h
        obtain ⟨e, q1, q2⟩ := deqAll_some h2
        refine ⟨fun j => match j with | 0 => a | j + 1 => e j, fun j x x' z z' => ?_, ?_⟩
        · match j with
          | 0 => simp at z z'; subst z z'; exact h1
          | j + 1 => exact q1 j x x' (by simpa using z) (by simpa using z')
        · have : min (d :: ds).length (d' :: es).length = min ds.length es.length + 1 := by simp
          rw [this, List.range_succ_eq_map, List.all_cons, List.all_map, q2]
          rfl
theorem deqKeys_some {f : D → D → Option Bool} {kes : List (Key × D)} : ∀ {kds : List (Key × D)} {b : Bool}, deqKeys f kes kds = some b →
    (∀ kd ∈ kds, ∀ d', getK kes kd.1 = some d' → ∃ c, f kd.2 d' = some c) ∧ b = kds.all fun kd => match getK kes kd.1 with | none => false | some d' => (f kd.2 d').getD false
  | [], b, h => by rw [deqKeys] at h; cases h; exact ⟨fun _ z => (by cases z), rfl⟩
  | kd :: r, b, h => by
    rw [deqKeys] at h
    cases h1 : getK kes kd.1 with
    | none =>
      rw [h1] at h
      cases h2 : deqKeys f kes r with
      | none => simp [h2] at h
      | some c =>
        simp only [h2, Option.map_some, Option.some.injEq] at h
        obtain ⟨q1, q2⟩ := deqKeys_some h2
        refine ⟨fun x hx d' z => ?_, ?_⟩
        · rcases List.mem_cons.mp hx with rfl | hx
          · rw [h1] at z; cases z
          · exact q1 x hx d' z
        · rw [List.all_cons, h1, ← h]
          rfl
    | some e =>
      rw [h1] at h
      dsimp only at h
      cases h3 : f kd.2 e with
      | none => rw [h3] at h; cases h
      | some a =>
        rw [h3] at h
        cases h2 : deqKeys f kes r with
        | none => simp [h2] at h
        | some c =>
          simp only [h2, Option.map_some, Option.some.injEq] at h
          obtain ⟨q1, q2⟩ := deqKeys_some h2
          refine ⟨fun x hx d' z => ?_, ?_⟩
          · rcases List.mem_cons.mp hx with rfl | hx
            · rw [h1] at z; cases z; exact ⟨a, h3⟩
            · exact q1 x hx d' z
          · rw [List.all_cons, h1, ← h, ← q2]
            simp [h3]
theorem seqT_rep {K : PySem.W.Frag} {F : Hp} {v : V} {x : D} {ds : List D} (h : seqT x = some ds) (r : Rep K F v x) : ∃ a xs, v = .ref a ∧ SqT K F a xs ∧ RepL K F xs ds := by
  cases r with
  | tup hs hr => cases h; exact ⟨_, _, rfl, hs.sqT, hr⟩
  | ptp hs hr => cases h; exact ⟨_, _, rfl, hs, hr⟩
  | _ => cases h
section
variable {X : Cx} {pins : List (Addr × Obj)} {σ : L2.St} {H F : Hp} {s : Shared}
/-- a value tells what it is -/
def bkOf (u : Value) : V := match u with | .none => .non | .bool b => .bl b | .int i _ => .int i | .str x _ => .str x | .ref a => .ref a | _ => .non
theorem rep_inj {K : PySem.W.Frag} {F F' : Hp} {x y : V} {d d' : D} {u : Value} (r : Rep K F x d) (rx : RelV x u) (r' : Rep K F' y d') (ry : RelV y u) : x = y := by
  have key : ∀ {z : V} {e : D} {F : Hp}, Rep K F z e → RelV z u → z = bkOf u := by
    intro z e F q h
    cases q with
    | non => cases h; rfl
    | bl b => cases h; rfl
    | int i => obtain ⟨t, rfl⟩ := h; rfl
    | str i => obtain ⟨t, rfl⟩ := h; rfl
    | _ => cases h; rfl
  rw [key r rx, key r' ry]
theorem repL_inj {K : PySem.W.Frag} {F F' : Hp} : ∀ {xs ys : List V} {ds es : List D} {us : List Value}, RepL K F xs ds → Vals xs us → RepL K F' ys es → Vals ys us → xs = ys
  | _, _, _, _, _, .nil, .nil, .nil, .nil => rfl
  | _, _, _, _, _, .cons r t, .cons rx tx, .cons r' t', .cons ry ty => by rw [rep_inj r rx r' ry, repL_inj t tx t' ty]
theorem tup_same (I : Inv X pins σ H s) {a : Addr} {xs ys : List V} {ds es : List D} (h1 : SqT X.K H a xs) (r1 : RepL X.K F xs ds) (h2 : SqT X.K H a ys) (r2 : RepL X.K F ys es) : xs = ys := by
  obtain ⟨its, v1, ⟨o, ho, hc, n, hd⟩, _⟩ := I.tuple h1
  obtain ⟨its', v2, ⟨o', ho', hc', n', hd'⟩, _⟩ := I.tuple h2
  rw [ho] at ho'; cases ho'
  rw [hd] at hd'
  injection hd' with e
  have e2 : its = its' := by simpa using e
  subst e2
  exact repL_inj r1 v1 r2 v2
theorem lst_same (I : Inv X pins σ H s) {a : Addr} {xs ys : List V} {ds es : List D} (h1 : SqL X.K H a xs) (r1 : RepL X.K F xs ds) (h2 : SqL X.K H a ys) (r2 : RepL X.K F ys es) : xs = ys := by
  obtain ⟨its, v1, p1, _⟩ := I.list h1
  obtain ⟨its', v2, p2, _⟩ := I.list h2
  obtain ⟨o, ho, hc, n, hd⟩ := p1.isList
  obtain ⟨o', ho', hc', n', hd'⟩ := p2.isList
  rw [ho] at ho'; cases ho'
  rw [hd] at hd'
  injection hd' with e
  have e2 : its = its' := by simpa using e
  subst e2
  exact repL_inj r1 v1 r2 v2
theorem getK_mem {kds : List (Key × D)} (nd : (kds.map (·.1)).Nodup) {k : Key} {d : D} (h : (k, d) ∈ kds) : getK kds k = some d := by
  unfold getK
  induction kds with
  | nil => cases h
  | cons p r ih =>
    rw [List.map_cons, List.nodup_cons] at nd
    rw [List.find?_cons]
    rcases List.mem_cons.mp h with e | e
    · subst e; simp
    · have hp : p.1 ≠ k := fun z => nd.1 (by rw [z]; exact List.mem_map.mpr ⟨_, e, rfl⟩)
      rw [decide_eq_false hp]
      exact ih nd.2 e
theorem deq_same (I : Inv X pins σ H s) (hF : Same F H) : ∀ (n : Nat) {x y : D} {v : V} {u : Value} {b : Bool}, Rep X.K F v x → Rep X.K F v y → RelV v u → deq n x y = some b → b = true := by
  have plain : ∀ {n : Nat} {x y : D} {v : V} {u : Value}, deqOk n x y = true → Rep X.K F v x → Rep X.K F v y → RelV v u → PyData.eqv (py x) (py y) = true := by
    intro n x y v u h r1 r2 ru
    unfold deqOk at h
    simp only [Bool.and_eq_true] at h
    obtain ⟨as, q1⟩ := Dp.reads I _ v u (Dp.mono hF (r1.dp h.1.1)) ru
    obtain ⟨bs, q2⟩ := Dp.reads I _ v u (Dp.mono hF (r2.dp h.1.2)) ru
    rw [(Reads.unique q1 _ _ q2).1]
    exact eqv_py y h.1.2
  intro n
  induction n with
  | zero =>
    intro x y v u b r1 r2 ru h
    rw [deq] at h
    split at h
    · rename_i h0
      rw [plain h0 r1 r2 ru] at h
      exact (Option.some.inj h).symm
    · cases h
  | succ n ih =>
    intro x y v u b r1 r2 ru h
    rw [deq] at h
    split at h
    · rename_i h0
      rw [plain h0 r1 r2 ru] at h
      exact (Option.some.inj h).symm
    · have all : ∀ {xs : List V} {us : List Value} {ds es : List D} {c : Bool}, RepL X.K F xs ds → RepL X.K F xs es → Vals xs us → deqAll (deq n) ds es = some c → c = true := by
        intro xs us ds es c q1 q2 qv hc
        obtain ⟨e, w1, w2⟩ := deqAll_some hc
        rw [w2, List.all_eq_true]
        intro j hj
        rw [List.mem_range] at hj
        have h1 : j < ds.length := by omega
        have h2 : j < es.length := by omega
        obtain ⟨z, z1, z2⟩ := q1.get (List.getElem?_eq_getElem h1)
        obtain ⟨z', z1', z2'⟩ := q2.get (List.getElem?_eq_getElem h2)
        rw [z1] at z1'; cases z1'
        obtain ⟨uu, _, rz⟩ := qv.get z1
        exact ih z2 z2' rz (w1 j _ _ (List.getElem?_eq_getElem h1) (List.getElem?_eq_getElem h2))
      unfold deqIn at h
      split at h
      · rename_i ds es h1 h2
        obtain ⟨a, xs, rfl, s1, q1⟩ := seqT_rep h1 r1
        obtain ⟨a', ys, e, s2, q2⟩ := seqT_rep h2 r2
        cases e
        have e := tup_same I (same_sqT hF s1) q1 (same_sqT hF s2) q2
        subst e
        cases hc : deqAll (deq n) ds es with
        | none => rw [hc] at h; cases h
        | some c =>
          rw [hc] at h
          obtain ⟨its, qv, _⟩ := I.tuple (same_sqT hF s1)
          rw [all q1 q2 qv hc] at h
          have : ds.length = es.length := q1.length.symm.trans q2.length
          simp [this] at h
          exact h
      · split at h
        · rename_i ds es _
          split at h
          · cases r1 with
            | lst s1 q1 =>
              cases r2 with
              | lst s2 q2 =>
                have e := lst_same I (hF.seq s1) q1 (hF.seq s2) q2
                subst e
                obtain ⟨its, qv, _⟩ := I.list (hF.seq s1)
                exact all q1 q2 qv h
          · rename_i hl
            cases r1 with
            | lst s1 q1 =>
              cases r2 with
              | lst s2 q2 =>
                have e := lst_same I (hF.seq s1) q1 (hF.seq s2) q2
                subst e
                exact absurd (q1.length.symm.trans q2.length) hl
        · rename_i ks ds ls es _ _
          obtain ⟨a, od, kvs, rfl, ea, hk, hn, rk, rv⟩ := r1.dic_inv
          obtain ⟨a', od', kvs', e, ea', hk', hn', rk', rv'⟩ := r2.dic_inv
          cases e
          rw [ea] at ea'
          cases ea'
          have hkl : ks = ls := hk.symm.trans hk'
          subst hkl
          cases hc : deqKeys (deq n) (ks.zip es) (ks.zip ds) with
          | none => rw [hc] at h; cases h
          | some c =>
            rw [hc] at h
            obtain ⟨w1, w2⟩ := deqKeys_some hc
            have ct : c = true := by
              rw [w2, List.all_eq_true]
              rintro ⟨k, d⟩ hkd
              have nd1 : ((ks.zip ds).map (·.1)).Nodup := by rw [← rk.keys, hk]; exact hn
              have g1 : getK (ks.zip ds) k = some d := getK_mem nd1 hkd
              rcases rk.val k with ⟨v1, d1, e1, e2, q1⟩ | ⟨e1, e2⟩
              · rw [g1] at e2; cases e2
                rcases rk'.val k with ⟨v2, d2, e3, e4, q2⟩ | ⟨e3, e4⟩
                · rw [e1] at e3; cases e3
                  obtain ⟨c, hcc⟩ := w1 _ hkd d2 e4
                  obtain ⟨z, lo, vs, rel, dd⟩ := dk_rd I.hok (.inr ⟨od, hF _ _ ea⟩)
                  have ro := rel.val k
                  rw [e1] at ro
                  cases hv : valueAt vs k with
                  | none => rw [hv] at ro; exact ro.elim
                  | some uu =>
                    rw [hv] at ro
                    have := ih q1 q2 ro hcc
                    subst this
                    simp only [e4]
                    rw [hcc]; rfl
                · rw [e1] at e3; cases e3
              · rw [g1] at e2; cases e2
            subst ct
            simp at h
            exact h
        · cases h
end
end DL

set_option Elab.async false
set_option linter.all false
set_option maxRecDepth 100000
namespace DL
open PySem PySem.Spec PyProof.Rows L2
section
variable {X : Cx} {pins : List (Addr × Obj)} {σ : L2.St} {H F : Hp} {s : Shared}
theorem vals_get {xs : List V} {us : List Value} (h : Vals xs us) {j : Nat} (hj : j < us.length) : ∃ x, xs[j]? = some x ∧ RelV x us[j] := by
  have hx : j < xs.length := by rw [h.length]; exact hj
  obtain ⟨u, e, r⟩ := h.get (List.getElem?_eq_getElem hx)
  rw [List.getElem?_eq_getElem hj] at e
  cases e
  exact ⟨_, List.getElem?_eq_getElem hx, r⟩
/-- the parts of two rows, compared one by one -/
theorem deq_row (I : Inv X pins σ H s) {f : D → D → Option Bool} {R : Value → Value → Bool → Prop} (ih : ∀ {x y : D} {v v' : V} {u u' : Value} {b : Bool}, Rep X.K F v x → Rep X.K F v' y → RelV v u → RelV v' u' → f x y = some b → R u u' b)
    {xs ys : List V} {us ws : List Value} {ds es : List D} {c : Bool} (q1 : RepL X.K F xs ds) (q2 : RepL X.K F ys es) (v1 : Vals xs us) (v2 : Vals ys ws) (h : deqAll f ds es = some c) :
    ∃ e : Nat → Bool, (∀ j (h1 : j < us.toArray.size) (h2 : j < ws.toArray.size), R us.toArray[j] ws.toArray[j] (e j)) ∧ c = (List.range (min us.toArray.size ws.toArray.size)).all e := by
  obtain ⟨e, w1, w2⟩ := deqAll_some h
  have l1 : us.length = ds.length := by rw [← v1.length]; exact q1.length
  have l2 : ws.length = es.length := by rw [← v2.length]; exact q2.length
  refine ⟨e, fun j h1 h2 => ?_, by simpa [l1, l2] using w2⟩
  obtain ⟨x, x1, rx⟩ := vals_get v1 (by simpa using h1)
  obtain ⟨y, y1, ry⟩ := vals_get v2 (by simpa using h2)
  obtain ⟨d, d1, r1⟩ := q1.getV x1
  obtain ⟨d', d2, r2⟩ := q2.getV y1
  exact ih r1 r2 rx ry (w1 j d d' d1 d2)
/-- two dicts -/
theorem deq_keys {f : D → D → Option Bool} {R : Value → Value → Bool → Prop} (ih : ∀ {x y : D} {v v' : V} {u u' : Value} {b : Bool}, Rep X.K F v x → Rep X.K F v' y → RelV v u → RelV v' u' → f x y = some b → R u u' b)
    {kvs kvs' : List (Key × V)} {kds kes : List (Key × D)} {vs vs' : List (Key × Value)} {c : Bool} (k1 : RepK X.K F kvs kds) (k2 : RepK X.K F kvs' kes) (v1 : KV kvs vs) (v2 : KV kvs' vs') (nd : (kds.map (·.1)).Nodup) (h : deqKeys f kes kds = some c) :
    ∃ e : Key → Bool, (∀ k v y, (k, v) ∈ vs → valueAt vs' k = some y → R v y (e k)) ∧ c = vs.all fun p => (valueAt vs' p.1).isSome && e p.1 := by
  obtain ⟨w1, w2⟩ := deqKeys_some h
  have ek : vs.map (·.1) = kds.map (·.1) := v1.keys.symm.trans k1.keys
  refine ⟨fun k => match getK kds k, getK kes k with | some d, some d' => (f d d').getD false | _, _ => false, fun k v y hm hy => ?_, ?_⟩
  · -- both there
    obtain ⟨i, hi, ei⟩ := List.mem_iff_getElem.mp hm
    have hkv : ∃ x d, (k, d) ∈ kds ∧ Rep X.K F x d ∧ RelV x v := by
      clear hy w1 w2 h
      have : ∀ {kvs : List (Key × V)} {kds : List (Key × D)} {vs : List (Key × Value)}, RepK X.K F kvs kds → KV kvs vs → (k, v) ∈ vs → ∃ x d, (k, d) ∈ kds ∧ Rep X.K F x d ∧ RelV x v := by
        intro kvs kds vs r q hm
        unfold KV at q
        induction r generalizing vs with
        | nil => cases q; cases hm
        | @cons k0 v0 d0 kvs kds r0 _ ih =>
          cases q with
          | @cons _ q0 _ qs hh tt =>
            obtain ⟨e1, e2⟩ := hh
            rcases List.mem_cons.mp hm with e | e
            · subst e
              exact ⟨v0, d0, by rw [← show k0 = k from e1]; exact List.mem_cons_self .., r0, e2⟩
            · obtain ⟨x, d, z1, z2, z3⟩ := ih tt e
              exact ⟨x, d, List.mem_cons_of_mem _ z1, z2, z3⟩
      exact this k1 v1 hm
    obtain ⟨x, d, m1, r1, rx⟩ := hkv
    have g1 := getK_mem nd m1
    have ro := v2.val k
    rw [hy] at ro
    rcases k2.val k with ⟨x', d', e1, e2, r2⟩ | ⟨e1, e2⟩
    · rw [e1] at ro
      obtain ⟨b, hb⟩ := w1 _ m1 d' e2
      simp only [g1, e2]
      rw [hb]
      exact ih r1 r2 rx ro hb
    · rw [e1] at ro; exact ro.elim
  · have a1 : (vs.all fun p => (valueAt vs' p.1).isSome && (match getK kds p.1, getK kes p.1 with | some d, some d' => (f d d').getD false | _, _ => false)) =
        (vs.map (·.1)).all fun k => (valueAt vs' k).isSome && (match getK kds k, getK kes k with | some d, some d' => (f d d').getD false | _, _ => false) := by rw [List.all_map]; rfl
    rw [a1, ek, List.all_map, w2]
    rw [Bool.eq_iff_iff, List.all_eq_true, List.all_eq_true]
    have one : ∀ kd ∈ kds, ((match getK kes kd.1 with | none => false | some d' => (f kd.2 d').getD false) = true ↔ ((valueAt vs' kd.1).isSome && (match getK kds kd.1, getK kes kd.1 with | some d, some d' => (f d d').getD false | _, _ => false)) = true) := by
      rintro ⟨k, d⟩ hkd
      have g1 := getK_mem nd hkd
      have ro := v2.val k
      rcases k2.val k with ⟨x', d', e1, e2, r2⟩ | ⟨e1, e2⟩
      · rw [e1] at ro
        cases hv : valueAt vs' k with
        | none => rw [hv] at ro; exact ro.elim
        | some u => simp [g1, e2]
      · simp [g1, e2]
    exact ⟨fun z kd hkd => (one kd hkd).mp (z kd hkd), fun z kd hkd => (one kd hkd).mpr (z kd hkd)⟩
theorem deq_tree (I : Inv X pins σ H s) (hF : Same F H) : ∀ (n : Nat) {x y : D} {v v' : V} {u u' : Value} {b : Bool}, Rep X.K F v x → Rep X.K F v' y → RelV v u → RelV v' u' → deq n x y = some b → PySem.W.EqTree X.prog X.w s n u u' b := by
  have plain : ∀ {n : Nat} {x y : D} {v v' : V} {u u' : Value}, deqOk n x y = true → Rep X.K F v x → Rep X.K F v' y → RelV v u → RelV v' u' → PySem.W.EqTree X.prog X.w s n u u' (PyData.eqv (py x) (py y)) := by
    intro n x y v v' u u' h r1 r2 ru ru'
    unfold deqOk at h
    simp only [Bool.and_eq_true, Bool.or_eq_true] at h
    obtain ⟨as, q1⟩ := Dp.reads I _ v u (Dp.mono hF (r1.dp h.1.1)) ru
    obtain ⟨bs, q2⟩ := Dp.reads I _ v' u' (Dp.mono hF (r2.dp h.1.2)) ru'
    have hm : min (py x).depth (py y).depth ≤ n := by
      rcases h.2 with z | z
      · have := depth_py _ _ z; omega
      · have := depth_py _ _ z; omega
    exact .leaf fun A hu => PySem.SeqAt.eqAt_plain _ _ A s _ _ as bs q1 q2 (plain_py _ h.1.1) (plain_py _ h.1.2) (by omega)
  intro n
  induction n with
  | zero =>
    intro x y v v' u u' b r1 r2 ru ru' h
    rw [deq] at h
    split at h
    · rename_i h0
      cases h
      exact plain h0 r1 r2 ru ru'
    · cases h
  | succ n ih =>
    intro x y v v' u u' b r1 r2 ru ru' h0
    have h := h0
    rw [deq] at h
    split at h
    · rename_i h1
      cases h
      exact plain h1 r1 r2 ru ru'
    · by_cases huu : u = u'
      · subst huu
        have e : v = v' := rep_inj r1 ru r2 ru'
        subst e
        rw [deq_same I hF (n + 1) r1 r2 ru h0]
        exact .same
      unfold deqIn at h
      split at h
      · rename_i ds es h1 h2
        obtain ⟨a, xs, rfl, s1, q1⟩ := seqT_rep h1 r1
        obtain ⟨a', ys, rfl, s2, q2⟩ := seqT_rep h2 r2
        cases ru; cases ru'
        obtain ⟨its, v1, p1, _⟩ := I.tuple (same_sqT hF s1)
        obtain ⟨its', v2, p2, _⟩ := I.tuple (same_sqT hF s2)
        cases hc : deqAll (deq n) ds es with
        | none => rw [hc] at h; cases h
        | some c =>
          rw [hc] at h
          obtain ⟨e, w1, rfl⟩ := deq_row I ih q1 q2 v1 v2 hc
          have l1 : its.length = ds.length := by rw [← v1.length]; exact q1.length
          have l2 : its'.length = es.length := by rw [← v2.length]; exact q2.length
          have hb : ((List.range (min its.toArray.size its'.toArray.size)).all e && its.toArray.size == its'.toArray.size) = b := by
            simpa [l1, l2] using h
          rw [← hb]
          exact .tuples (fun z => huu (by rw [z])) p1 p2 w1
      · split at h
        · rename_i ds es _ _
          cases r1 with
          | @lst a xs _ s1 q1 =>
            cases r2 with
            | @lst a' ys _ s2 q2 =>
              cases ru; cases ru'
              obtain ⟨its, v1, p1, _⟩ := I.list (hF.seq s1)
              obtain ⟨its', v2, p2, _⟩ := I.list (hF.seq s2)
              have l1 : its.length = ds.length := by rw [← v1.length]; exact q1.length
              have l2 : its'.length = es.length := by rw [← v2.length]; exact q2.length
              split at h
              · rename_i hl
                obtain ⟨e, w1, rfl⟩ := deq_row I ih q1 q2 v1 v2 h
                have hm : min its.toArray.size its'.toArray.size = its.toArray.size := by simp [l1, l2, hl]
                rw [hm]
                exact .lists (fun z => huu (by rw [z])) p1.isList p2.isList (by simp [l1, l2, hl]) w1
              · rename_i hl
                cases h
                exact .listsLen (fun z => huu (by rw [z])) p1.isList p2.isList (by simp [l1, l2, hl])
        · rename_i ks ds ls es _ _
          obtain ⟨a, od, kvs, rfl, ea, hk, hn, rk, rv⟩ := r1.dic_inv
          obtain ⟨a', od', kvs', rfl, ea', hk', hn', rk', rv'⟩ := r2.dic_inv
          cases ru; cases ru'
          obtain ⟨z, lo, vs, rel, dd⟩ := dk_rd I.hok (.inr ⟨od, hF _ _ ea⟩)
          obtain ⟨z', lo', vs', rel', dd'⟩ := dk_rd I.hok (.inr ⟨od', hF _ _ ea'⟩)
          cases hc : deqKeys (deq n) (ls.zip es) (ks.zip ds) with
          | none => rw [hc] at h; cases h
          | some c =>
            rw [hc] at h
            obtain ⟨e, w1, rfl⟩ := deq_keys ih rk rk' rel rel' (by rw [← rk.keys, hk]; exact hn) hc
            have l1 : vs.length = ks.length := by rw [← rel.length, ← hk, List.length_map]
            have l2 : vs'.length = ls.length := by rw [← rel'.length, ← hk', List.length_map]
            have hb : (vs.length == vs'.length && vs.all fun p => (valueAt vs' p.1).isSome && e p.1) = b := by rw [l1, l2]; simpa using h
            rw [← hb]
            exact .dicts (fun z => huu (by rw [z])) lo lo' dd dd' w1
        · cases h
/-! ### x == y, x != y -/
def eqD2 (x y : D) : Option D := (deq deepest x y).map .bl
def neD2 (x y : D) : Option D := if eqOk x y = true then some (.bl (!PyData.eqv (py x) (py y))) else (deqIn (deq 59) x y).map fun b => .bl (!b)
theorem os_eq2 {k : Nat} (hr : Room k X.A) : OS2 X (compareOp .Eq) eqD2 := by
  intro pins s σ H F x y v u dx dy dz Q I hF rx ry hx hy hf q
  unfold eqD2 deepest at hf
  have hu := hr.units
  cases hd : deq 60 dx dy with
  | none => rw [hd] at hf; cases hf
  | some b =>
    rw [hd] at hf
    cases hf
    have fin : EP X pins σ Q (.bool b) s := ⟨.bl b, H, I, rfl, q _ F H (Gro.refl hF) (.bl _)⟩
    rw [deq] at hd
    split at hd
    · rename_i h0
      cases hd
      have h1 : eqOk dx dy = true := h0
      exact os_eq hr pins s σ H F x y v u dx dy _ Q I hF rx ry hx hy (by unfold eqD; rw [if_pos h1]) q
    · unfold deqIn at hd
      split at hd
      · rename_i ds es h1 h2
        obtain ⟨a, xs, rfl, s1, q1⟩ := seqT_rep h1 hx
        obtain ⟨a', ys, rfl, s2, q2⟩ := seqT_rep h2 hy
        cases rx; cases ry
        obtain ⟨its, v1, p1, _⟩ := I.tuple (same_sqT hF s1)
        obtain ⟨its', v2, p2, _⟩ := I.tuple (same_sqT hF s2)
        cases hc : deqAll (deq 59) ds es with
        | none => rw [hc] at hd; cases hd
        | some c =>
          rw [hc] at hd
          obtain ⟨e, w1, rfl⟩ := deq_row I (deq_tree I hF 59) q1 q2 v1 v2 hc
          have l1 : its.length = ds.length := by rw [← v1.length]; exact q1.length
          have l2 : its'.length = es.length := by rw [← v2.length]; exact q2.length
          refine PySem.W.eq_tuplesT p1 p2 w1 (by omega) ?_
          have hb : ((List.range (min its.toArray.size its'.toArray.size)).all e && its.toArray.size == its'.toArray.size) = b := by simpa [l1, l2] using hd
          rw [hb]
          exact fin
      · split at hd
        · rename_i ds es _ _
          cases hx with
          | @lst a xs _ s1 q1 =>
            cases hy with
            | @lst a' ys _ s2 q2 =>
              cases rx; cases ry
              obtain ⟨its, v1, p1, _⟩ := I.list (hF.seq s1)
              obtain ⟨its', v2, p2, _⟩ := I.list (hF.seq s2)
              have l1 : its.length = ds.length := by rw [← v1.length]; exact q1.length
              have l2 : its'.length = es.length := by rw [← v2.length]; exact q2.length
              split at hd
              · rename_i hl
                obtain ⟨e, w1, rfl⟩ := deq_row I (deq_tree I hF 59) q1 q2 v1 v2 hd
                have hm : min its.toArray.size its'.toArray.size = its.toArray.size := by simp [l1, l2, hl]
                rw [hm] at fin
                exact PySem.W.eq_listsT p1.isList p2.isList (by simp [l1, l2, hl]) w1 (by omega) fin
              · rename_i hl
                cases hd
                exact PySem.SeqAt.RcAt.lists_lengths p1.isList p2.isList (by simp [l1, l2, hl]) (by omega) X.prog X.w _ _ fin
        · rename_i ks ds ls es _ _
          obtain ⟨a, od, kvs, rfl, ea, hk, hn, rk, rv⟩ := hx.dic_inv
          obtain ⟨a', od', kvs', rfl, ea', hk', hn', rk', rv'⟩ := hy.dic_inv
          cases rx; cases ry
          obtain ⟨z, lo, vs, rel, dd⟩ := dk_rd I.hok (.inr ⟨od, hF _ _ ea⟩)
          obtain ⟨z', lo', vs', rel', dd'⟩ := dk_rd I.hok (.inr ⟨od', hF _ _ ea'⟩)
          cases hc : deqKeys (deq 59) (ls.zip es) (ks.zip ds) with
          | none => rw [hc] at hd; cases hd
          | some c =>
            rw [hc] at hd
            obtain ⟨e, w1, rfl⟩ := deq_keys (deq_tree I hF 59) rk rk' rel rel' (by rw [← rk.keys, hk]; exact hn) hc
            have l1 : vs.length = ks.length := by rw [← rel.length, ← hk, List.length_map]
            have l2 : vs'.length = ls.length := by rw [← rel'.length, ← hk', List.length_map]
            have hb : (vs.length == vs'.length && vs.all fun p => (valueAt vs' p.1).isSome && e p.1) = b := by rw [l1, l2]; simpa using hd
            refine PySem.W.eq_dictsT lo lo' dd dd' w1 (by omega) ?_
            rw [hb]
            exact fin
        · cases hd
theorem os_ne2 {k : Nat} (hr : Room k X.A) : OS2 X (compareOp .NotEq) neD2 := by
  intro pins s σ H F x y v u dx dy dz Q I hF rx ry hx hy hf q
  have hu := hr.units
  unfold neD2 at hf
  split at hf
  · rename_i h0
    exact os_ne hr pins s σ H F x y v u dx dy dz Q I hF rx ry hx hy (by unfold neD; rw [if_pos h0]; exact hf) q
  · have main : ∀ b, deqIn (deq 59) dx dy = some b → dz = .bl (!b) → wpAny (model X.prog X.w) X.A (compareOp .NotEq v u) (EP X pins σ Q) X.xe s := by
      intro b hd ez
      subst ez
      have fin : EP X pins σ Q (.bool (!b)) s := ⟨.bl (!b), H, I, rfl, q _ F H (Gro.refl hF) (.bl _)⟩
      unfold deqIn at hd
      split at hd
      · rename_i ds es h1 h2
        obtain ⟨a, xs, rfl, s1, q1⟩ := seqT_rep h1 hx
        obtain ⟨a', ys, rfl, s2, q2⟩ := seqT_rep h2 hy
        cases rx; cases ry
        obtain ⟨its, v1, p1, _⟩ := I.tuple (same_sqT hF s1)
        obtain ⟨its', v2, p2, _⟩ := I.tuple (same_sqT hF s2)
        cases hc : deqAll (deq 59) ds es with
        | none => rw [hc] at hd; cases hd
        | some c =>
          rw [hc] at hd
          obtain ⟨e, w1, rfl⟩ := deq_row I (deq_tree I hF 59) q1 q2 v1 v2 hc
          have l1 : its.length = ds.length := by rw [← v1.length]; exact q1.length
          have l2 : its'.length = es.length := by rw [← v2.length]; exact q2.length
          refine PySem.SeqAt.rcNeIn_tuples p1 p2 (by omega) (fun j h1 h2 => (w1 j h1 h2).at X.A.in1 (by show X.A.units + 1 + _ < cLine; omega)) ?_
          have hb : ((List.range (min its.toArray.size its'.toArray.size)).all e && its.toArray.size == its'.toArray.size) = b := by simpa [l1, l2] using hd
          rw [hb]
          exact fin
      · split at hd
        · rename_i ds es _ _
          cases hx with
          | @lst a xs _ s1 q1 =>
            cases hy with
            | @lst a' ys _ s2 q2 =>
              cases rx; cases ry
              obtain ⟨its, v1, p1, _⟩ := I.list (hF.seq s1)
              obtain ⟨its', v2, p2, _⟩ := I.list (hF.seq s2)
              have l1 : its.length = ds.length := by rw [← v1.length]; exact q1.length
              have l2 : its'.length = es.length := by rw [← v2.length]; exact q2.length
              split at hd
              · rename_i hl
                obtain ⟨e, w1, rfl⟩ := deq_row I (deq_tree I hF 59) q1 q2 v1 v2 hd
                have hm : min its.toArray.size its'.toArray.size = its.toArray.size := by simp [l1, l2, hl]
                rw [hm] at fin
                exact PySem.SeqAt.rcNeIn_lists p1.isList p2.isList (by simp [l1, l2, hl]) (by omega) (fun j h1 h2 => (w1 j h1 h2).at X.A.in1 (by show X.A.units + 1 + _ < cLine; omega)) fin
              · rename_i hl
                cases hd
                exact PySem.SeqAt.RcNeAt.lists_lengths p1.isList p2.isList (by simp [l1, l2, hl]) (by omega) X.prog X.w _ _ fin
        · rename_i ks ds ls es _ _
          obtain ⟨a, od, kvs, rfl, ea, hk, hn, rk, rv⟩ := hx.dic_inv
          obtain ⟨a', od', kvs', rfl, ea', hk', hn', rk', rv'⟩ := hy.dic_inv
          cases rx; cases ry
          obtain ⟨z, lo, vs, rel, dd⟩ := dk_rd I.hok (.inr ⟨od, hF _ _ ea⟩)
          obtain ⟨z', lo', vs', rel', dd'⟩ := dk_rd I.hok (.inr ⟨od', hF _ _ ea'⟩)
          cases hc : deqKeys (deq 59) (ls.zip es) (ks.zip ds) with
          | none => rw [hc] at hd; cases hd
          | some c =>
            rw [hc] at hd
            obtain ⟨e, w1, rfl⟩ := deq_keys (deq_tree I hF 59) rk rk' rel rel' (by rw [← rk.keys, hk]; exact hn) hc
            have l1 : vs.length = ks.length := by rw [← rel.length, ← hk, List.length_map]
            have l2 : vs'.length = ls.length := by rw [← rel'.length, ← hk', List.length_map]
            have hb : (vs.length == vs'.length && vs.all fun p => (valueAt vs' p.1).isSome && e p.1) = b := by rw [l1, l2]; simpa using hd
            refine PySem.W.keq_neIn lo lo' dd dd' (by omega) (fun _ => PySem.W.KeqHitsIn.of _ fun k v y hm hv => (w1 k v y hm hv).at X.A.in1 (by show X.A.units + 1 + _ < cLine; omega)) ?_
            rw [hb]
            exact fin
        · cases hd
    cases hd : deqIn (deq 59) dx dy with
    | none => rw [hd] at hf; cases hf
    | some b =>
      rw [hd] at hf
      cases hf
      exact main b hd rfl
end
end DL

set_option Elab.async false
set_option linter.all false
set_option maxRecDepth 100000
namespace DL
open PySem PySem.Spec PyProof.Rows L2
/-! ### sorted, of pairs (text, value), the texts unlike -/
def SPr (h : Heap) (v : Value) (k : Str) : Prop := ∃ a o t y n, v = .ref a ∧ h.get? a = some o ∧ o.cls = .type "tuple" ∧ o.data = .seq #[.str k t, y] n
open Classical in
noncomputable def kOf (h : Heap) (v : Value) : Str := if hx : ∃ k, SPr h v k then hx.choose else ""
theorem SPr.uniq {h : Heap} {v : Value} {k k' : Str} (a : SPr h v k) (b : SPr h v k') : k = k' := by
  obtain ⟨a, o, t, y, n, rfl, h1, h2, h3⟩ := a
  obtain ⟨a', o', t', y', n', e, h1', h2', h3'⟩ := b
  cases e
  rw [h1] at h1'; cases h1'
  rw [h3] at h3'
  injection h3' with e
  have := congrArg Array.toList e
  simp at this
  exact this.1.1
theorem SPr.kOf {h : Heap} {v : Value} {k : Str} (a : SPr h v k) : DL.kOf h v = k := by
  unfold DL.kOf
  have hx : ∃ k, SPr h v k := ⟨k, a⟩
  rw [dif_pos hx]
  exact SPr.uniq hx.choose_spec a
theorem SPr.keeps {h h' : Heap} {v : Value} {k : Str} (a : SPr h v k) (e : ∀ b o, h.get? b = some o → o.cls = .type "tuple" → h'.get? b = some o) : SPr h' v k := by
  obtain ⟨a, o, t, y, n, rfl, h1, h2, h3⟩ := a
  exact ⟨a, o, t, y, n, rfl, e _ _ h1 h2, h2, h3⟩
theorem swo_str {α : Type} (k : α → Str) : SrtO.Swo (fun v u : α => sLt (k v) (k u)) := ⟨fun _ _ h => sLt_asymm h, fun _ _ _ h1 h2 => sLe_trans h1 h2⟩
section
variable {P : Program} {w : World} {A : Around} {E : Value → Shared → Prop} {s : Shared}
theorem prs_cmp {vs : List Value} {k : Value → Str} (hp : ∀ v ∈ vs, SPr s.heap v (k v)) (hu : ∀ v ∈ vs, ∀ u ∈ vs, k v = k u → v = u) : SrtO.Cmp P w A s (tuples' true) (fun p => p.1 ∈ vs) (SrtO.lt2 fun v u => sLt (k v) (k u)) := by
  intro p q hm hm'
  have h1 := hp _ hm
  have h2 := hp _ hm'
  show wpAny (model P w) A (keyLt' (tuples' true) p.1 q.1) (fun r s' => s' = s ∧ r = sLt (k p.1) (k q.1)) (fun _ _ => False) s
  obtain ⟨a, o, t, y, n, e, ho, hc, hd⟩ := h1
  obtain ⟨b, o', t', y', n', e', ho', hc', hd'⟩ := h2
  by_cases ek : k p.1 = k q.1
  · have epq := hu _ hm _ hm' ek
    rw [e, e'] at epq
    cases epq
    rw [ho] at ho'; cases ho'
    rw [← ek, sLt_irrefl]
    rw [e, e']
    refine PySem.W.kat_lt ho hd ho hd ?_
    refine PySem.W.kat_cons (SeqAt.EqAt.same _ P w _ _ (PySem.W.kat_yes (PySem.W.kat_cons (SeqAt.EqAt.same _ P w _ _ (PySem.W.kat_yes (PySem.W.kat_nil ⟨rfl, by simp⟩))))))
  · generalize k p.1 = k1 at *
    generalize k q.1 = k2 at *
    rw [e, e'] at *
    refine PySem.W.kat_lt ho hd ho' hd' ?_
    refine PySem.W.kat_cons (SeqAt.EqAt.str_str _ t _ t' P w _ _ ?_)
    refine PySem.W.kat_go (fun e1 => absurd (by simpa using e1) ek) (fun _ => PySem.W.kat_no ?_)
    exact oneLt_str ⟨rfl, rfl⟩
theorem prs_firsts {h : Heap} {k : Value → Str} : ∀ {vs : List Value}, (∀ v ∈ vs, SPr h v (k v)) → ∃ fs, PySem.W.KatTups h vs fs ∧ fs.length = vs.length ∧ ∀ f ∈ fs, ∃ x t, f = Value.str x t
  | [], _ => ⟨[], PySem.W.KatTups.nil, rfl, fun _ z => by cases z⟩
  | v :: vs, hv => by
    obtain ⟨fs, h1, h2, h3⟩ := prs_firsts fun u hu => hv u (List.mem_cons_of_mem _ hu)
    obtain ⟨a, o, t, y, n, e, ho, hc, hd⟩ := hv v (List.mem_cons_self ..)
    generalize k v = kv at *
    subst e
    refine ⟨.str kv t :: fs, PySem.W.KatTups.cons ho hc hd rfl h1, by rw [List.length_cons, List.length_cons, h2], fun g hg => ?_⟩
    rcases List.mem_cons.mp hg with rfl | hg
    · exact ⟨_, _, rfl⟩
    · exact h3 g hg
theorem prs_sortable {a : Addr} {vs : List Value} {k : Value → Str} (h0 : 0 < vs.length) (hp : ∀ v ∈ vs, SPr s.heap v (k v)) (hu : ∀ v ∈ vs, ∀ u ∈ vs, k v = k u → v = u) (ha : ∀ o, s.heap.get? a = some o → o.cls ≠ .type "tuple") : SrtO.SortableO P w A s a vs fun v u => sLt (k v) (k u) := by
  intro h' keep
  have hp' : ∀ v ∈ vs, SPr h' v (k v) := fun v hm => (hp v hm).keeps fun b o e c => keep b o (fun z => by subst z; exact ha o e c) e
  obtain ⟨fs, h1, h2, h3⟩ := prs_firsts hp'
  refine ⟨tuples' true, fun Q E hq => ?_, prs_cmp hp' hu⟩
  refine PySem.W.kat_kind (T := .type "str") h1 (by omega) (fun f hm => ?_) (by rfl) ?_
  · obtain ⟨x, t, rfl⟩ := h3 f hm
    exact PySem.W.Looks.now
  · have e : (Value.type "str" != Value.type "tuple") = true := by first | decide +kernel | rfl | decide
    rw [e]
    exact hq
end
section
variable {X : Cx}
def PrK (K : PySem.W.Frag) (H : Hp) (x : V) (k : Str) : Prop := ∃ t y, x = .ref t ∧ SqT K H t [.str k, y]
def rSortPr (K : PySem.W.Frag) : List V → Hp → VK → Prop := fun vs H Q => ∃ (a : Addr) (xs : List V), vs = [V.ref a] ∧ SqL K H a xs ∧ (∀ x ∈ xs, ∃ k, PrK K H x k) ∧ (∀ x ∈ xs, ∀ y ∈ xs, ∀ k, PrK K H x k → PrK K H y k → x = y) ∧
  ∀ (ys : List V) (p : Addr), ys.Perm xs → ys.Pairwise (fun x y => ∀ k k', PrK K H x k → PrK K H y k' → sLt k' k = false) → H p = none → Q (.ref p) (upd H p (.lst ys))
theorem prK_raw {pins : List (Addr × Obj)} {σ : L2.St} {H : Hp} {s : Shared} (I : Inv X pins σ H s) {t : Addr} {k : Str} {y : V} (h : SqT X.K H t [.str k, y]) : SPr s.heap (.ref t) k := by
  obtain ⟨its, rv, ⟨o, ho, hc, n, hd⟩, _⟩ := I.tuple h
  obtain ⟨u1, u2, rfl, r1, r2⟩ := rv.two
  obtain ⟨tk, rfl⟩ := r1
  exact ⟨t, o, tk, u2, n, rfl, ho, hc, hd⟩
theorem cr_sortPr : CallR X (.builtin "sorted") (rSortPr X.K) := by
  intro pins s σ H vs us Q I r h
  obtain ⟨a, xs, rfl, hs, hx, hu, q⟩ := h
  obtain ⟨its, rv, hl, hz⟩ := I.list hs
  rw [Vals.ref1 r]
  obtain ⟨e1, e2⟩ := bkV_refs rv fun x m => by
    obtain ⟨k, t, y, e, _⟩ := hx x m
    exact ⟨t, e⟩
  have back : ∀ v ∈ its, ∃ t, v = Value.ref t ∧ V.ref t ∈ xs := fun v hv => by
    obtain ⟨t, rfl⟩ := e2 v hv
    exact ⟨t, rfl, by rw [e1]; exact List.mem_map.mpr ⟨_, hv, rfl⟩⟩
  have prs : ∀ v ∈ its, SPr s.heap v (kOf s.heap v) := fun v hv => by
    obtain ⟨t, rfl, hm⟩ := back v hv
    obtain ⟨k, t', y, e, ht⟩ := hx _ hm
    cases e
    have z := prK_raw I ht
    rw [z.kOf]
    exact z
  have uniq : ∀ v ∈ its, ∀ u ∈ its, kOf s.heap v = kOf s.heap u → v = u := fun v hv u hu' e => by
    obtain ⟨t, rfl, hm⟩ := back v hv
    obtain ⟨t', rfl, hm'⟩ := back u hu'
    obtain ⟨k, t1, y, e1, ht⟩ := hx _ hm
    obtain ⟨k', t2, y', e2, ht'⟩ := hx _ hm'
    cases e1; cases e2
    rw [(prK_raw I ht).kOf, (prK_raw I ht').kOf] at e
    subst e
    cases hu _ hm _ hm' k ⟨_, _, rfl, ht⟩ ⟨_, _, rfl, ht'⟩
    rfl
  refine SrtO.sorted_ord (swo_str fun v => kOf s.heap v) hl.isList (by rw [← rv.length]; exact hz) (fun h2 h₁ a ha kk => ?_) fun out hso hb => ?_
  · refine prs_sortable (s := { s with heap := h₁ }) (by omega) (fun v hm => (prs v hm).keeps fun b o e _ => (kk b o e).2) uniq fun o e => ?_
    have e' : some o = some (seqObj "list" its.toArray 0) := e.symm.trans ha
    cases e'
    intro c
    exact absurd (Value.type.inj c) (by decide)
  · obtain ⟨ep, he'⟩ := PyProof.Rows.sortedAll_at s.heap its out.toArray
    have h3 : ∀ u ∈ out, ∃ a, u = Value.ref a := fun u hu => e2 u (hb.perm.mem_iff.mp hu)
    have hp : (out.map bkV).Perm xs := by
      rw [e1]
      exact hb.perm.map bkV
    have hlen : (out.map bkV).length ≤ sizeLine := by
      rw [hp.length_eq]
      exact hz
    refine ⟨.ref _, upd H (s.heap.objs.size + 1) (.lst (out.map bkV)), I.laid (t' := s.toks) (fun _ _ => PyProof.Rows.sortedAll_old) (Nat.le_succ _) ⟨hlen, out, ep, bkV_vals h3, he'⟩, rfl, q _ _ hp ?_ (I.hok.fresh (Nat.le_succ _))⟩
    rw [List.pairwise_map]
    refine List.Pairwise.imp (fun {u v} huv n m hn hm => ?_) hso
    obtain ⟨t, y, et, ht⟩ := hn
    obtain ⟨t', y', et', ht'⟩ := hm
    have i1 : kOf s.heap u = n := by
      rw [bkV_ref et]
      exact (prK_raw I ht).kOf
    have i2 : kOf s.heap v = m := by
      rw [bkV_ref et']
      exact (prK_raw I ht').kOf
    rw [← i1, ← i2]
    exact huv
end
abbrev prD (kd : Str × D) : D := .tup [.str kd.1, kd.2]
def prsOf : List D → Option (List (Str × D))
  | [] => some []
  | .tup [.str k, d] :: ds => (prsOf ds).map ((k, d) :: ·)
  | _ => none
theorem prsOf_eq : ∀ {ds : List D} {ps : List (Str × D)}, prsOf ds = some ps → ds = ps.map prD
  | [], _, h => by cases h; rfl
  | d :: ds, ps, h => by
    unfold prsOf at h
    split at h
    · rename_i z; cases z
    · rename_i k d' ds' z
      cases z
      cases hd : prsOf ds with
      | none => rw [hd] at h; cases h
      | some qs => rw [hd] at h; cases h; rw [List.map_cons, prsOf_eq hd]
    · cases h
@[simp] theorem prsOf_map : ∀ ps : List (Str × D), prsOf (ps.map prD) = some ps
  | [] => rfl
  | p :: ps => by rw [List.map_cons, prsOf, prsOf_map ps]; rfl
def sortPr (ps : List (Str × D)) : List (Str × D) := ps.mergeSort fun a b => !sLt b.1 a.1
theorem sortPr_perm (ps : List (Str × D)) : (sortPr ps).Perm ps := List.mergeSort_perm ps _
theorem sortPr_le (ps : List (Str × D)) : (sortPr ps).Pairwise fun a b => sLt b.1 a.1 = false := by
  have h := List.pairwise_mergeSort (le := fun (a b : Str × D) => !sLt b.1 a.1) (fun a b c h1 h2 => by
    simp only [Bool.not_eq_true'] at *
    exact sLe_trans h1 h2) (fun a b => by
    cases q : sLt b.1 a.1 with
    | false => rfl
    | true => simp [sLt_asymm q]) ps
  exact h.imp fun z => by simpa using z
theorem nd_key {ps : List (Str × D)} (nd : (ps.map (·.1)).Nodup) {a b : Str × D} (ha : a ∈ ps) (hb : b ∈ ps) (e : a.1 = b.1) : a = b := by
  induction ps with
  | nil => cases ha
  | cons p r ih =>
    rw [List.map_cons, List.nodup_cons] at nd
    rcases List.mem_cons.mp ha with z | z
    · rcases List.mem_cons.mp hb with y | y
      · rw [z, y]
      · exact (nd.1 (by rw [← z, e]; exact List.mem_map.mpr ⟨_, y, rfl⟩)).elim
    · rcases List.mem_cons.mp hb with y | y
      · exact (nd.1 (by rw [← y, ← e]; exact List.mem_map.mpr ⟨_, z, rfl⟩)).elim
      · exact ih nd.2 z y
theorem sortPr_of {ps qs : List (Str × D)} (nd : (ps.map (·.1)).Nodup) (p : qs.Perm ps) (h : qs.Pairwise fun a b => sLt b.1 a.1 = false) : qs = sortPr ps :=
  (p.trans (sortPr_perm ps).symm).eq_of_pairwise (fun a b ha hb z1 z2 => nd_key nd (p.mem_iff.mp ha) ((sortPr_perm ps).mem_iff.mp hb) (sLt_tri z2 z1)) h (sortPr_le ps)
def sortedD3 : List D → Option (List D)
  | [.lst ds] => match prsOf ds with
    | some ps => if (ps.map (·.1)).Nodup then some ((sortPr ps).map prD) else none
    | none => sortedD2 [.lst ds]
  | xs => sortedD2 xs
section
variable {X : Cx}
theorem Rep.prK1 {K : PySem.W.Frag} {F H : Hp} (hF : Same F H) {x : V} {p : Str × D} (r : Rep K F x (prD p)) : PrK K H x p.1 := by
  cases r with
  | @tup a xs _ hs hr =>
    cases hr with
    | @cons v vs _ _ r1 t1 =>
      cases r1
      cases t1 with
      | cons r2 t2 =>
        cases t2
        exact ⟨_, _, rfl, same_sqT hF hs.sqT⟩
theorem RepL.prK {K : PySem.W.Frag} {F H : Hp} (hF : Same F H) : ∀ {ps : List (Str × D)} {xs : List V}, RepL K F xs (ps.map prD) → ∀ x ∈ xs, ∃ p ∈ ps, PrK K H x p.1 := by
  intro ps
  induction ps with
  | nil => intro xs h x hx; cases h; cases hx
  | cons p ps ih =>
    intro xs h x hx
    cases h with
    | cons r t =>
      rcases List.mem_cons.mp hx with z | z
      · subst z
        exact ⟨p, List.mem_cons_self .., r.prK1 hF⟩
      · obtain ⟨q, hq, h⟩ := ih t x z
        exact ⟨q, List.mem_cons_of_mem _ hq, h⟩
theorem prK_uniq {pins : List (Addr × Obj)} {σ : L2.St} {H : Hp} {s : Shared} (I : Inv X pins σ H s) {x : V} {k k' : Str} (h : PrK X.K H x k) (h' : PrK X.K H x k') : k = k' := by
  obtain ⟨t, y, rfl, h⟩ := h
  obtain ⟨t', y', e, h'⟩ := h'
  cases e
  exact (prK_raw I h).uniq (prK_raw I h')
theorem RepL.prK_at {K : PySem.W.Frag} {F H : Hp} (hF : Same F H) : ∀ {ps : List (Str × D)} {xs : List V}, RepL K F xs (ps.map prD) → ∀ p ∈ ps, ∃ x ∈ xs, PrK K H x p.1 := by
  intro ps
  induction ps with
  | nil => intro xs h x hx; cases hx
  | cons p ps ih =>
    intro xs h x hx
    cases h with
    | cons r t =>
      rcases List.mem_cons.mp hx with z | z
      · subst z
        exact ⟨_, List.mem_cons_self .., r.prK1 hF⟩
      · obtain ⟨q, hq, h⟩ := ih t x z
        exact ⟨q, List.mem_cons_of_mem _ hq, h⟩
theorem RepL.prK_pw {K : PySem.W.Frag} {F H : Hp} (hF : Same F H) : ∀ {ps : List (Str × D)} {xs : List V}, RepL K F xs (ps.map prD) → xs.Pairwise (fun x y => ∀ k k', PrK K H x k → PrK K H y k' → sLt k' k = false) → ps.Pairwise fun a b => sLt b.1 a.1 = false := by
  intro ps
  induction ps with
  | nil => intro xs _ _; exact List.Pairwise.nil
  | cons p ps ih =>
    intro xs h h0
    cases h with
    | cons r t =>
      obtain ⟨h1, h2⟩ := List.pairwise_cons.mp h0
      refine List.pairwise_cons.mpr ⟨fun q hq => ?_, ih t h2⟩
      obtain ⟨x, hx, tx⟩ := RepL.prK_at hF t q hq
      exact h1 x hx _ _ (r.prK1 hF) tx
/-- unlike texts, unlike places -/
theorem prK_inj {pins : List (Addr × Obj)} {σ : L2.St} {H F : Hp} {s : Shared} (I : Inv X pins σ H s) (hF : Same F H) : ∀ {ps : List (Str × D)} {xs : List V}, RepL X.K F xs (ps.map prD) → (ps.map (·.1)).Nodup → ∀ x ∈ xs, ∀ y ∈ xs, ∀ k, PrK X.K H x k → PrK X.K H y k → x = y := by
  intro ps
  induction ps with
  | nil => intro xs h _ x hx; cases h; cases hx
  | cons p ps ih =>
    intro xs h nd x hx y hy k kx ky
    rw [List.map_cons, List.nodup_cons] at nd
    cases h with
    | cons r t =>
      rcases List.mem_cons.mp hx with zx | zx
      · rcases List.mem_cons.mp hy with zy | zy
        · rw [zx, zy]
        · obtain ⟨q, hq, tq⟩ := RepL.prK hF t y zy
          subst zx
          have e1 := prK_uniq I (r.prK1 hF) kx
          have e2 := prK_uniq I tq ky
          exact (nd.1 (by rw [e1, ← e2]; exact List.mem_map.mpr ⟨_, hq, rfl⟩)).elim
      · rcases List.mem_cons.mp hy with zy | zy
        · obtain ⟨q, hq, tq⟩ := RepL.prK hF t x zx
          subst zy
          have e1 := prK_uniq I (r.prK1 hF) ky
          have e2 := prK_uniq I tq kx
          exact (nd.1 (by rw [e1, ← e2]; exact List.mem_map.mpr ⟨_, hq, rfl⟩)).elim
        · exact ih t nd.2 x zx y zy k kx ky
theorem cn_sortedD3 (hc : X.calm = true) : CN X (.builtin "sorted") sortedD3 := by
  intro pins s σ H F vs us ds dz Q I hF rx hx hf q
  unfold sortedD3 at hf
  split at hf
  · rename_i es
    cases h1 : prsOf es with
    | some ps =>
      simp only [h1] at hf
      split at hf
      · rename_i nd
        cases hf
        obtain ⟨v, rfl, r⟩ := hx.one_inv
        cases r with
        | lst hs hr =>
          rw [prsOf_eq h1] at hr
          refine cr_sortPr pins s σ H _ us Q I rx ⟨_, _, rfl, hF.seq hs, fun x hx => ?_, prK_inj I hF hr nd, fun ys p hp hw hn' => ?_⟩
          · obtain ⟨p, _, h⟩ := RepL.prK hF hr x hx
            exact ⟨_, h⟩
          · obtain ⟨bs, pm, hr2⟩ := RepL.perm prD hp hr
            refine q p _ F H (Gro.refl hF) hn' ?_ (hF.free hn') hn'
            rw [← sortPr_of nd pm (RepL.prK_pw hF hr2 hw)]
            exact hr2
      · cases hf
    | none =>
      simp only [h1] at hf
      exact cn_sortedD2 hc pins s σ H F vs us _ dz Q I hF rx hx hf q
  · exact cn_sortedD2 hc pins s σ H F vs us _ dz Q I hF rx hx hf q
end
end DL

set_option Elab.async false
set_option linter.all false
set_option maxRecDepth 100000
namespace DL
open PySem PySem.Spec PyProof.Rows L2
/-! ### names of the module that hold nested tuples -/
def GCon (K : PySem.W.Frag) (mg : Str → Option Value) (x : Str) (d : D) : Prop := ∃ v u, mg x = some u ∧ RelV v u ∧ ∀ F, Rep K F v d
theorem gt_mk {K : PySem.W.Frag} {a : Addr} {its : Array Value} {n : Nat} {sl : Array (Option Value)} {xs : List V} {ds : List D} (hl : K.lookup a = some ⟨.type "tuple", none, .seq its n, sl⟩) (hz : its.size ≤ sizeLine) (hv : Vals xs its.toList) (hr : ∀ F, RepL K F xs ds) : ∀ F, Rep K F (.ref a) (.tup ds) :=
  fun F => .tup (.inr ⟨_, its, n, hl, rfl, rfl, rfl, hz, hv⟩) (hr F)
section
variable {X : Cx} {pos : Pos}
theorem ev_gcon {x : Str} {d : D} (hg : Gl X x) (h : GCon X.K X.mg x d) (hd : (x == ("__debug__" : Str)) = false := by decide) : EV X (.Name x pos) (eC d) := by
  obtain ⟨v, u, h1, h2, h3⟩ := h
  intro B W hB L
  refine pe_mono (pe_glob (v := v) hg h1 h2 hd) ?_
  rintro σ H Q ⟨F, ρ, g, QD, R, w, q⟩
  exact q v H F g d Ste.refl R (by rw [hB]; exact h3 F) w
end
/-! ### facts of ==, != -/
theorem eqD2_of {x y : D} (h : eqOk x y = true) : eqD2 x y = some (.bl (PyData.eqv (py x) (py y))) := by
  unfold eqD2 deepest
  have h' : deqOk (59 + 1) x y = true := h
  rw [deq, if_pos h']; rfl
theorem neD2_of {x y : D} (h : eqOk x y = true) : neD2 x y = some (.bl (!PyData.eqv (py x) (py y))) := by
  unfold neD2
  rw [if_pos h]
@[simp] theorem eqOk_atom {x y : D} (h : atomD x = true) (h2 : pok y = true) : eqOk x y = true := by
  unfold eqOk deepest
  cases x <;> first | (cases h; done) | (simp [pok, h2, dep])
@[simp] theorem eqD2_int {i j : Int} : eqD2 (.int i) (.int j) = some (.bl (decide (i = j))) := by
  rw [eqD2_of (by rfl)]; simp only [py, PyData.eqv]; rfl
@[simp] theorem eqD2_str {a b : Str} : eqD2 (.str a) (.str b) = some (.bl (decide (a = b))) := by
  rw [eqD2_of (by rfl)]; simp only [py, PyData.eqv]; rfl
@[simp] theorem eqD2_bl {a b : Bool} : eqD2 (.bl a) (.bl b) = some (.bl (decide (a = b))) := by
  rw [eqD2_of (by rfl)]; cases a <;> cases b <;> simp [py, PyData.eqv]
@[simp] theorem neD2_int {i j : Int} : neD2 (.int i) (.int j) = some (.bl (!decide (i = j))) := by
  rw [neD2_of (by rfl)]; simp only [py, PyData.eqv]; rfl
@[simp] theorem neD2_str {a b : Str} : neD2 (.str a) (.str b) = some (.bl (!decide (a = b))) := by
  rw [neD2_of (by rfl)]; simp only [py, PyData.eqv]; rfl
@[simp] theorem neD2_bl {a b : Bool} : neD2 (.bl a) (.bl b) = some (.bl (!decide (a = b))) := by
  rw [neD2_of (by rfl)]; cases a <;> cases b <;> simp [py, PyData.eqv]
end DL

set_option Elab.async false
set_option linter.all false
set_option maxRecDepth 100000
namespace DL
open PySem PySem.Spec PyProof.Rows L2
/-! ### dict comprehensions told -/
def foldP (fk : D → Key) (fv : D → D) (acc : List (Key × D)) (ds : List D) : List (Key × D) := ds.foldl (fun a d => putD a (fk d) (fv d)) acc
theorem dcGo_w {τ : Tg} {mt : EM Bool} {mk mv : EM D} {ρ : Rho} (p : D → Bool) (fk : D → Key) (fv : D → D) {g : G} {Q : List (Key × D) → G → Prop} : ∀ {ds : List D} {acc : List (Key × D)},
    (∀ d ∈ ds, ∃ ρ', τ.bd d ρ = some ρ' ∧ (∀ K : Bool → G → Prop, K (p d) g → mt ρ' g K (fun _ _ => False)) ∧ (p d = true → (∀ K : D → G → Prop, K (ofKey (fk d)) g → mk ρ' g K (fun _ _ => False)) ∧ ∀ K : D → G → Prop, K (fv d) g → mv ρ' g K (fun _ _ => False))) →
    Q (foldP fk fv acc (ds.filter p)) g → dcGo τ mt mk mv ρ ds acc g Q
  | [], acc, _, q => by simpa [dcGo, foldP] using q
  | d :: ds, acc, h, q => by
    obtain ⟨ρ', e, h1, h2⟩ := h d (List.mem_cons_self ..)
    rw [dcGo, e]
    refine h1 _ ?_
    by_cases hp : p d = true
    · rw [if_pos hp]
      refine (h2 hp).1 _ ((h2 hp).2 _ ?_)
      have ek : keyOf (ofKey (fk d)) = some (fk d) := by cases fk d <;> rfl
      rw [ek]
      refine dcGo_w p fk fv (fun d' hd => h d' (List.mem_cons_of_mem _ hd)) ?_
      rw [List.filter_cons_of_pos hp] at q
      exact q
    · rw [if_neg hp]
      refine dcGo_w p fk fv (fun d' hd => h d' (List.mem_cons_of_mem _ hd)) ?_
      rw [List.filter_cons_of_neg (by simpa using hp)] at q
      exact q
theorem putD_new {kds : List (Key × D)} {k : Key} {d : D} (h : k ∉ kds.map (·.1)) : putD kds k d = kds ++ [(k, d)] := by
  unfold putD
  rw [if_neg]
  simp only [List.any_eq_true, decide_eq_true_eq, not_exists, not_and]
  exact fun kv hkv e => h (List.mem_map.mpr ⟨kv, hkv, e⟩)
theorem foldP_nd {fk : D → Key} {fv : D → D} : ∀ {ds : List D} {acc : List (Key × D)}, (acc.map (·.1) ++ ds.map fk).Nodup → foldP fk fv acc ds = acc ++ ds.map fun d => (fk d, fv d)
  | [], acc, _ => by simp [foldP]
  | d :: ds, acc, h => by
    have hn : fk d ∉ acc.map (·.1) := by
      have := (List.nodup_append.mp h).2.2
      intro z
      exact this _ z _ (by simp) rfl
    have h2 : ((acc ++ [(fk d, fv d)]).map (·.1) ++ ds.map fk).Nodup := by simpa using h
    have ih := foldP_nd (fv := fv) h2
    unfold foldP at ih ⊢
    rw [List.foldl_cons, putD_new hn, ih]
    simp
theorem mergeD_nd : ∀ {more acc : List (Key × D)}, (acc.map (·.1) ++ more.map (·.1)).Nodup → mergeD acc more = acc ++ more
  | [], acc, _ => by simp [mergeD]
  | kd :: r, acc, h => by
    have hn : kd.1 ∉ acc.map (·.1) := by
      have := (List.nodup_append.mp h).2.2
      intro z
      exact this _ z _ (by simp) rfl
    have h2 : ((acc ++ [kd]).map (·.1) ++ r.map (·.1)).Nodup := by simpa using h
    have ih := mergeD_nd h2
    unfold mergeD at ih ⊢
    rw [List.foldl_cons, putD_new hn, ih]
    simp
/-- a comprehension by an invariant -/
theorem lcGo_i {τ : Tg} {mt : EM Bool} {me : EM D} {ρ : Rho} {Q : List D → G → Prop} (I : List D → List D → G → Prop)
    (step : ∀ d ds acc g (N : List D → G → Prop), I (d :: ds) acc g → (∀ acc g, I ds acc g → N acc g) → ∃ ρ', τ.bd d ρ = some ρ' ∧ mt ρ' g (fun k g1 => if k = true then me ρ' g1 (fun y g2 => N (acc ++ [y]) g2) (fun _ _ => False) else N acc g1) (fun _ _ => False))
    (fin : ∀ acc g, I [] acc g → Q acc g) : ∀ {ds acc : List D} {g : G}, I ds acc g → lcGo τ mt me ρ ds acc g Q
  | [], _, _, i => fin _ _ i
  | d :: ds, acc, g, i => by
    obtain ⟨ρ2, e, h⟩ := step d ds acc g (fun acc g => lcGo τ mt me ρ ds acc g Q) i fun acc g j => lcGo_i I step fin j
    rw [lcGo, e]
    exact h
end DL

set_option Elab.async false
set_option linter.all false
set_option maxRecDepth 100000
namespace DL
open PySem PySem.Spec PyProof.Rows L2
/-! ### one statement after the other: steps for long bodies -/
section
variable {n n' a b : SM} {t : EM Bool} {m : EM D} {DD : SE} {W : Wi} {ρ : Rho} {g : G} {i j : Nat} {d d2 : D}
theorem seq_ (h : n { DD with nx := n' DD W } W ρ g) : sSeq n n' DD W ρ g := h
theorem if_t (ht : ∀ Q E, Q true g → t ρ g Q E) (h : a DD W ρ g) : sIf t a b DD W ρ g := ht _ _ (by rw [if_pos rfl]; exact h)
theorem if_f (ht : ∀ Q E, Q false g → t ρ g Q E) (h : b DD W ρ g) : sIf t a b DD W ρ g := ht _ _ (by rw [if_neg Bool.false_ne_true]; exact h)
theorem if_b {c : Bool} (ht : ∀ Q E, Q c g → t ρ g Q E) (h1 : c = true → a DD W ρ g) (h2 : c = false → b DD W ρ g) : sIf t a b DD W ρ g := by
  cases c with
  | true => exact if_t ht (h1 rfl)
  | false => exact if_f ht (h2 rfl)
theorem seq_t (ht : ∀ Q E, Q true g → t ρ g Q E) (h : a { DD with nx := n' DD W } W ρ g) : sSeq (sIf t a b) n' DD W ρ g := if_t ht h
theorem seq_f (ht : ∀ Q E, Q false g → t ρ g Q E) (h : b { DD with nx := n' DD W } W ρ g) : sSeq (sIf t a b) n' DD W ρ g := if_f ht h
theorem seq_n (ht : ∀ Q E, Q false g → t ρ g Q E) (h : n' DD W ρ g) : sSeq (sIf t a sNext) n' DD W ρ g := if_f ht h
theorem seq_b {c : Bool} (ht : ∀ Q E, Q c g → t ρ g Q E) (h1 : c = true → a { DD with nx := n' DD W } W ρ g) (h2 : c = false → n' DD W ρ g) : sSeq (sIf t a sNext) n' DD W ρ g := if_b ht h1 h2
theorem seq_s (hm : ∀ Q E, Q d g → m ρ g Q E) (h : n' DD W (ρ.set i (.val d)) g) : sSeq (sSet i m) n' DD W ρ g := hm _ _ h
theorem set_s (hm : ∀ Q E, Q d g → m ρ g Q E) (h : DD.nx (ρ.set i (.val d)) g) : sSet i m DD W ρ g := hm _ _ h
theorem seq_p {ms : EM (List Sl)} {is : List Nat} {ss : List Sl} {ρ' : Rho} (hm : ∀ Q E, Q ss g → ms ρ g Q E) (hl : ss.length = is.length := by rfl) (hz : ss.length ≤ 10 := by simp) (hs : setS is ss ρ = some ρ' := by rfl) (h : n' DD W ρ' g) : sSeq (sParT is ms) n' DD W ρ g :=
  hm _ _ ⟨⟨hl, by rw [sizeLine_eq]; omega⟩, by rw [hs]; exact h⟩
theorem par_ {ms : EM (List Sl)} {is : List Nat} {ss : List Sl} {ρ' : Rho} (hm : ∀ Q E, Q ss g → ms ρ g Q E) (hl : ss.length = is.length := by rfl) (hz : ss.length ≤ 10 := by simp) (hs : setS is ss ρ = some ρ' := by rfl) (h : DD.nx ρ' g) : sParT is ms DD W ρ g :=
  hm _ _ ⟨⟨hl, by rw [sizeLine_eq]; omega⟩, by rw [hs]; exact h⟩
theorem seq_for {mi : EM (List D)} {τ : Tg} {ds : List D} (hm : ∀ Q E, Q ds g → mi ρ g Q E) (h : forGo τ n { DD with nx := n' DD W } W ds ρ g) : sSeq (sFor mi τ n) n' DD W ρ g := hm _ _ h
end
end DL

set_option Elab.async false
set_option linter.all false
set_option maxRecDepth 100000
namespace DL
open PySem PySem.Spec PyProof.Rows L2
/-! ### t[::-1] of a tuple -/
theorem places_rev (n : Nat) : Builtin.Slice.slicePlaces ((n : Int) - 1) (-1) (-1) = n := by
  unfold Builtin.Slice.slicePlaces
  have h1 : ¬ ((-1 : Int) > 0) := by decide
  rw [if_neg h1]
  by_cases h : (n : Int) - 1 > -1
  · rw [if_pos h, show (-(-1) : Int) = 1 from rfl, Int.ediv_one]
    omega
  · rw [if_neg h]
    have : n = 0 := by omega
    subst this; rfl
section
variable {prog : Program} {w : World} {A : Around} {E : Value → Shared → Prop} {s : Shared}
theorem sliceApplied_rev {sl : Addr} {vl vu vs : Value} {n : Nat} {Q : Int × Int × Nat → Shared → Prop} (hs : s.heap.IsSliceOf sl vl vu vs) (pl : IsPart vl none) (pu : IsPart vu none) (ps : IsPart vs (some (-1)))
    (h : Q ((n : Int) - 1, -1, n) s) : wpAny (model prog w) A (Builtin.Slice.sliceApplied (.ref sl) (pure (n : Int))) Q E s := by
  obtain ⟨os, hos, hcs, hds⟩ := id hs
  unfold Builtin.Slice.sliceApplied Builtin.Slice.sliceFields
  refine wpAny_bind (wpAny_bind (wpAny_field hos hds (x := vl) rfl (wpAny_bind (wpAny_field hos hds (x := vu) rfl (wpAny_bind (wpAny_field hos hds (x := vs) rfl (wpAny_pure ?_)))))))
  refine wpAny_bind (HT.slicePart_ ps ?_)
  show wpAny _ _ (if ((-1 : Int) == 0) = true then _ else _) _ _ s
  rw [if_neg (by decide)]
  refine wpAny_bind (HT.slicePart_ pl (wpAny_bind (HT.slicePart_ pu (wpAny_bind (wpAny_pure ?_)))))
  show wpAny _ _ (pure ((n : Int) - 1, (-1 : Int), Builtin.Slice.slicePlaces ((n : Int) - 1) (-1) (-1))) _ _ s
  rw [places_rev]
  exact wpAny_pure h
theorem pick_rev (xs : Array Value) : ((List.range xs.size).filterMap fun (m : Nat) => xs[(((xs.size : Int) - 1) + (m : Int) * (-1)).toNat]?).toArray = xs.toList.reverse.toArray := by
  have e : (List.range xs.size).filterMap (fun (m : Nat) => xs[(((xs.size : Int) - 1) + (m : Int) * (-1)).toNat]?) = ((List.range xs.size).map fun k => xs.size - 1 - k).filterMap (xs[·]?) := by
    have go : ∀ l : List Nat, (∀ m ∈ l, m < xs.size) → l.filterMap (fun (m : Nat) => xs[(((xs.size : Int) - 1) + (m : Int) * (-1)).toNat]?) = (l.map fun k => xs.size - 1 - k).filterMap (xs[·]?) := by
      intro l
      induction l with
      | nil => intro _; rfl
      | cons m l ih =>
        intro h
        have hm := h m (List.mem_cons_self ..)
        have e : (((xs.size : Int) - 1) + (m : Int) * (-1)).toNat = xs.size - 1 - m := by omega
        rw [List.map_cons, List.filterMap_cons, List.filterMap_cons, e, ih fun k hk => h k (List.mem_cons_of_mem _ hk)]
    exact go _ fun m hm => List.mem_range.mp hm
  rw [e, PySem.W.krv_range, List.filterMap_reverse, PySem.W.krv_all]
theorem getItem_tuple_rev {t sl : Addr} {items : Array Value} {vl vu vs : Value} {Q : Value → Shared → Prop} (ht : IsTup s.heap t items) (hs : s.heap.IsSliceOf sl vl vu vs) (pl : IsPart vl none) (pu : IsPart vu none) (ps : IsPart vs (some (-1)))
    (h : Q (.ref s.heap.objs.size) { s with heap := s.heap.push { cls := .type "tuple", data := .seq items.toList.reverse.toArray } })
    (hsz : items.size ≤ sizeLine) : wpAny (model prog w) A (getItem (.ref t) (.ref sl)) Q E s := by
  have htake : sizeOk (.seq items.toList.reverse.toArray) := by
    show items.toList.reverse.toArray.size ≤ sizeLine
    rw [List.size_toArray, List.length_reverse, Array.length_toList]
    exact hsz
  obtain ⟨os, hos, hcs, hds⟩ := id hs
  have hTs : s.TypeIs (.ref sl) "slice" := ⟨os, hos, hcs⟩
  unfold getItem
  try with_reducible refine wpAny_holding ?_
  first | refine wpAny_bind (wpAny_pure ?_) | skip
  refine wpAny_bind (wpAny_sequenceKey ht.typeIs (by decide) ?_)
  refine wpAny_bind (wpAny_callSpecial?_slot (name := Str.ofString "__getitem__") ht.typeIs PyProof.Rows.slot_tuple_getitem
    (wpAny_call_entry PyProof.Rows.slot_tuple_getitem ht.typeIs entry_tuple_getitem ?_ (args_tuple_getitem _ _)))
  show wpAny _ _ (Builtin.Tuple.tupleItemsOf (.ref t) >>= _) _ _ s
  refine wpAny_bind (tupleItemsOf_ ht ?_)
  refine wpAny_bind (wpAny_typeOf hTs ?_)
  rw [if_pos (by decide)]
  refine wpAny_bind (sliceApplied_rev hs pl pu ps ?_)
  have hno : ¬ ((((items.size : Int) - 1) == 0 && (-1 : Int) == 1 && items.size == items.size) = true) := by
    intro q
    rw [Bool.and_eq_true, Bool.and_eq_true] at q
    exact absurd q.1.2 (by decide)
  show wpAny _ _ (if (((items.size : Int) - 1) == 0 && (-1 : Int) == 1 && items.size == items.size) = true then _ else _) _ _ s
  rw [if_neg hno, pick_rev]
  first
    | exact wpAny_bind (m := Builtin.Tuple.tupleExact _) (wpAny_newObj_type (wpAny_pure ⟨_, rfl, wpAny_pure h⟩) htake)
    | exact wpAny_bind (m := Builtin.Tuple.tupleExact _) (wpAny_newObj_type (wpAny_bind (wpAny_pure (wpAny_pure ⟨_, rfl, wpAny_pure h⟩))) htake)
    | exact wpAny_bind (wpAny_bind (m := Builtin.Tuple.tupleExact _) (wpAny_newObj_type (wpAny_pure (wpAny_pure ⟨_, rfl, wpAny_pure h⟩)) htake))
    | exact wpAny_bind (wpAny_bind (m := Builtin.Tuple.tupleExact _) (wpAny_newObj_type (wpAny_pure ⟨_, rfl, wpAny_pure h⟩) htake))
end
section
variable {X : Cx} {a : Expr} {ma : EM D} {pos : Pos}
def tRevT (K : PySem.W.Frag) (te : TE) : TE := fun σ H Q => te σ H fun x H1 => ∃ F dx ds, Same F H1 ∧ Rep K F x dx ∧ dx = .tup ds ∧ ∀ w F' H', Gro F H1 F' H' → Rep K F' w (.tup ds.reverse) → Q w H'
theorem pe_revT {e : Expr} {te : TE} {k : Nat} {p1 p2 p3 pos : Pos} (he : PE X e te) : PE X (.Subscript e (.Slice none none (some (.UnaryOp .USub (.Constant (.int 1) k p1) p2)) p3) pos) (tRevT X.K te) := by
  refine ⟨fun pins s σ H Q I h => ?_⟩
  refine Subscript_ (thn (he.run pins s σ H _ I h) fun v s1 ⟨x, H1, I1, r1, q1⟩ => ?_)
  obtain ⟨F, dx, ds, hF, hx, rfl, q⟩ := q1
  cases hx with
  | @tup ad xs ds ht hr =>
  cases r1
  have hst : PO X (some (.UnaryOp .USub (.Constant (.int 1) k p1) p2)) (tPart (tUn (rU fun i => .int (-i)) (tC (.int 1)))) := po_some (pe_un un_neg pe_int)
  refine wpAny_Slice (thn (po_none.run pins s1 σ H1 (fun o H2 => o = none ∧ H2 = H1) I1 ⟨rfl, rfl⟩) fun vl s2 ⟨l, H2, I2, pl, el, e2⟩ => ?_)
  subst el e2
  refine thn (po_none.run pins s2 σ H2 (fun o H3 => o = none ∧ H3 = H2) I2 ⟨rfl, rfl⟩) fun vu s3 ⟨u, H3, I3, pu, eu, e3⟩ => ?_
  subst eu e3
  refine thn (hst.run pins s3 σ H3 (fun o H4 => o = some (-1) ∧ H4 = H3) I3 ⟨1, rfl, -1, rfl, rfl, rfl⟩) fun vs s4 ⟨o, H4, I4, ps, eo, e4⟩ => ?_
  subst eo e4
  have I5 : Inv X pins σ H4 { s4 with heap := s4.heap.push { cls := .type "slice", data := .fields #[vl, vu, vs] } } := I4.kept (t' := s4.toks) fun b ob q => Heap.get?_push_of_some _ q
  have hT := same_sqT hF ht.sqT
  obtain ⟨its, r, p1', hz⟩ := I5.tuple hT
  have hlen : its.toArray.size = xs.length := by rw [List.size_toArray]; exact r.length.symm
  show wpAny (model X.prog X.w) X.A (subscriptTail e (.Slice none none (some (.UnaryOp .USub (.Constant (.int 1) k p1) p2)) p3) (.ref ad) (.ref s4.heap.objs.size)) (EP X pins σ Q) X.xe { s4 with heap := s4.heap.push { cls := .type "slice", data := .fields #[vl, vu, vs] } }
  refine tail_any (ops := [.ref ad, .ref s4.heap.objs.size]) p1'.typeIs (PyProof.Rows.slot_tuple_getitem.lookup) ?_ (by with_unfolding_all rfl)
  refine getItem_tuple_rev p1' (Heap.IsSliceOf.new _ vl vu vs) pl pu ps ?_ (by rw [hlen]; exact hz)
  have hp := I5.hok.fresh (Nat.le_refl (s4.heap.push { cls := .type "slice", data := .fields #[vl, vu, vs] }).objs.size)
  have G1 := Gro.lay (o := .frz { cls := .type "tuple", data := .seq its.reverse.toArray } (.tup xs.reverse)) hF hp
  exact ⟨.ref _, _, lay_tup (tk := s4.toks) I5 r.reverse (by rw [List.length_reverse]; exact hz), rfl, q _ _ _ G1 (.tup (.inl ⟨_, upd_same, rfl⟩) (hr.reverse.mono G1.ff))⟩
@[simp] def eRevT (m : EM D) : EM D := fun ρ g Q E => m ρ g (fun x g1 => match x with | .tup ds => Q (.tup ds.reverse) g1 | _ => False) E
theorem ev_revT {k : Nat} {p1 p2 p3 : Pos} (ha : EV X a ma) : EV X (.Subscript a (.Slice none none (some (.UnaryOp .USub (.Constant (.int 1) k p1) p2)) p3) pos) (eRevT ma) := by
  intro B W hB L
  refine pe_mono (pe_revT (ha B W hB L)) ?_
  rintro σ H Q ⟨F, ρ, g, QD, R, w, q⟩
  refine ⟨F, ρ, g, _, R, w, ?_⟩
  intro v1 H1 F1 g1 d1 k1 R1 r1 w1
  split at w1
  · rename_i ds
    exact ⟨F1, _, ds, R1.fh, by rw [← hB]; exact r1, rfl, fun w F' H' G1 rw' => q w H' F' g1 _ (k1.trans G1.ste) (R1.gro G1) (by rw [hB]; exact rw') w1⟩
  · exact w1.elim
end
end DL

set_option Elab.async false
set_option linter.all false
set_option maxRecDepth 100000
namespace DL
open PySem PySem.Spec PyProof.Rows L2
/-! ### t * n of a tuple: a new tuple, its object known -/
@[simp] def mulD2 (x y : D) : Option D := match x, y with
  | .tup xs, .int n => if (2 ≤ n ∧ n ≤ 1000) ∧ xs.isEmpty = false ∧ xs.length ≤ 1000 then some (.tup (List.replicate n.toNat xs).flatten) else none
  | x, y => mulD x y
section
variable {X : Cx}
theorem few {n : Int} {m : Nat} (h1 : 2 ≤ n) (h2 : n ≤ 1000) (h3 : m ≤ 1000) : (m : Int) * n ≤ 1000000 ∧ n.toNat * m ≤ 1000000 := by
  have a : n.toNat * m ≤ 1000 * 1000 := Nat.mul_le_mul (by omega) h3
  have b : (m : Int) * n = ((n.toNat * m : Nat) : Int) := by rw [Int.natCast_mul, Int.mul_comm]; congr 1; omega
  exact ⟨by rw [b]; omega, by omega⟩
theorem os_mulD2 : OS2 X (binaryOp .Mult) mulD2 := by
  intro pins s σ H F x y v u dx dy dz Q I hF rx ry hx hy hf q
  by_cases hd : ∃ xs n, dx = .tup xs ∧ dy = .int n
  · obtain ⟨ds, n, rfl, rfl⟩ := hd
    simp only [mulD2] at hf
    split at hf
    · rename_i hc
      obtain ⟨⟨n2, nK⟩, hne, hl⟩ := hc
      cases hf
      cases hy.int_inv
      cases hx with
      | @tup a vs _ ha hr =>
        cases rx
        obtain ⟨t, rfl⟩ := ry
        obtain ⟨its, r, ⟨⟨cl, dc, dt, sl⟩, ho, ecl, m, edt⟩, _⟩ := I.tuple (same_sqT hF ha.sqT)
        dsimp only at ecl edt
        subst ecl edt
        have el : its.length = ds.length := r.length.symm.trans hr.length
        have e0 : its.toArray.isEmpty = false := by
          have : ds ≠ [] := fun z => by subst z; cases hne
          have : 0 < ds.length := List.length_pos_iff.mpr this
          cases its with
          | nil => simp at el; omega
          | cons _ _ => rfl
        have es : its.toArray.size = ds.length := by rw [List.size_toArray]; exact el
        obtain ⟨f1, f2⟩ := few n2 nK hl
        have zf : (List.replicate n.toNat its).flatten.length ≤ sizeLine := by
          rw [PyProof.Rows.lm_len_rep_flat, el, sizeLine_eq]; omega
        have zv : (List.replicate n.toNat vs).flatten.length ≤ sizeLine := by
          rw [PyProof.Rows.lm_len_rep_flat, hr.length, sizeLine_eq]; omega
        have big : (decide (n < -(2 ^ 63)) || decide (n ≥ 2 ^ 63)) = false := by
          rw [Bool.or_eq_false_iff]; exact ⟨decide_eq_false (by omega), decide_eq_false (by omega)⟩
        have one : (its.toArray.isEmpty || n == 1) = false := by
          rw [e0]; simp; omega
        have none' : (decide (n ≤ 0) || its.toArray.isEmpty) = false := by
          rw [e0]; simp; omega
        have many : Builtin.Tuple.tupleTooMany (((its.toArray.size : Nat) : Int) * n) = false := by
          rw [es]
          refine decide_eq_false ?_
          rw [sizeLine_eq]; omega
        have ty : s.TypeIs (.ref a) "tuple" := ⟨_, ho, rfl⟩
        have inner := tuple_mulW a its.toArray m dc sl n t big one none' (by rw [es]; omega) many (by rw [size_rep, List.size_toArray]; exact zf)
        have outer := int_rmul_tuple n t a its.toArray m dc sl
        refine wpAny_binaryOp_repeat_ref (U := "int") (by decide) ty (fun s' => typeIs_int s' n t) noFill_tuple_mul PySem.F.fills_int_mul PySem.F.slot_int_rmul repeat_tuple PySem.F.slot_int_index.lookup ?_
        refine call_meets PySem.F.slot_int_rmul (typeIs_int s n t) PySem.F.entry_int_rmul (PySem.F.args_int_rmul_2 _ _) outer ⟨ho, rfl, ty, ?_⟩
        refine call_meets PySem.F.slot_tuple_mul ty PySem.F.entry_tuple_mul (PySem.F.args_tuple_mul_2 _ _) inner ⟨ho, ?_⟩
        rw [size_rep]
        have hp := I.hok.fresh (Nat.le_refl s.heap.objs.size)
        have G1 := Gro.lay (o := .frz { cls := .type "tuple", data := .seq (List.replicate n.toNat its).flatten.toArray } (.tup (List.replicate n.toNat vs).flatten)) hF hp
        exact ⟨.ref _, _, lay_tup (tk := s.toks) I (r.rep n.toNat) zv, rfl, q _ _ _ G1 (.tup (.inl ⟨_, upd_same, rfl⟩) ((hr.rep n.toNat).mono G1.ff))⟩
    · cases hf
  · have e : mulD2 dx dy = mulD dx dy := by
      cases dx <;> try rfl
      cases dy <;> try rfl
      exact absurd ⟨_, _, rfl, rfl⟩ hd
    rw [e] at hf
    exact os_mulD pins s σ H F x y v u dx dy dz Q I hF rx ry hx hy hf q
end
end DL

set_option Elab.async false
set_option linter.all false
set_option maxRecDepth 100000
namespace DL
open PySem PySem.Spec PyProof.Rows L2
/-! ### instances with slots, as values: reads, methods, properties, isinstance -/
@[simp] def fldD (C : Addr) (i : Nat) (d : D) : Option D := match d with | .obj C' ds => if C' = C then ds[i]? else none | _ => none
/-- the class's facts -/
structure SlC (K : PySem.W.Frag) (C : Addr) : Prop where
  c : SlX.SCls K C
  i : SlX.SIsi K C
theorem Rep.slt {K : PySem.W.Frag} {F H : Hp} {v : V} {C : Addr} {ds : List D} (e : Same F H) (r : Rep K F v (.obj C ds)) : ∃ a dx xs, v = .ref a ∧ SlX.Slt H a C dx (xs.map some) ∧ RepL K F xs ds := by
  cases r with
  | @obj a _ dx xs _ h1 h2 hr => exact ⟨a, dx, xs, rfl, .inr ⟨e _ _ h1, e _ _ h2⟩, hr⟩
section
variable {X : Cx} {C p : Addr} {f m : Str} {i k : Nat} {e o : Expr} {es : List Expr} {pos apos : Pos} {ma : EM D} {ms : EM (List D)} {sp : FSp}
theorem ev_fld (c : SlX.SCls X.K C) (t : ∃ p, SlX.Slot1 X.K C f p i) (ha : EV X e ma) (hb : attributeBase e f X.env (eval e X.env) = eval e X.env := by rfl) : EV X (.Attribute e f pos) (e1 (fldD C i) ma) := by
  obtain ⟨p, t⟩ := t
  intro B W hB L
  refine pe_mono (SlX.pe_sl (ha B W hB L) hb) ?_
  rintro σ H Q ⟨F, ρ, g, QD, R, w, q⟩
  refine ⟨F, ρ, g, _, R, w, ?_⟩
  intro v1 H1 F1 g1 d1 k1 R1 r1 w1
  cases hf : fldD C i d1 with
  | none => rw [hf] at w1; exact w1.elim
  | some z =>
    rw [hf] at w1
    unfold fldD at hf
    split at hf
    · split at hf
      · rename_i C' ds hc
        subst hc
        obtain ⟨a, dx, xs, rfl, hs, hr⟩ := r1.slt R1.fh
        obtain ⟨v, e1, rv⟩ := hr.get hf
        exact ⟨a, _, dx, p, _, i, v, rfl, hs, c, t, by rw [List.getElem?_map, e1]; rfl, q v H1 F1 g1 z k1 R1 rv w1⟩
      · cases hf
    · cases hf
/-! methods -/
structure Mth (P : Program) (w : World) (K : PySem.W.Frag) (mg : Str → Option Value) (base : Heap) (C : Addr) (m : Str) (k : Nat) (sp : FSp) : Prop where
  ex : ∃ (f : Addr) (fd : FuncData) (ps : List Str), FnG P w K mg base (L2.CX P w) k f fd ps (lift K sp) ∧ Binds K fd ps [] ∧ Meth K C m f
def tMethG (C : Addr) (sp : Sp) (E : L2.St → XK) (ta : TE) (t : TA) : TE := fun σ H Q => ta σ H fun x H1 => ∃ a dx vs, x = .ref a ∧ SlX.Slt H1 a C dx vs ∧ t σ H1 fun ws H2 => sp (x :: ws) H2 Q (E σ)
theorem pe_methG {f : Addr} {fd : FuncData} {ps : List Str} {sp : Sp} {E : L2.St → XK} {ta : TE} {t : TA} {pl : Sem Bool} (he : PE X o ta) (c : SlX.SCls X.K C) (hm : Meth X.K C m f) (F : FnG X.prog X.w X.K X.mg X.base (L2.CX X.prog X.w) k f fd ps sp) (hr : RoomG k X.A) (hb : Binds X.K fd ps [])
    (hx : ∀ σ, PassesAt (L2.CX X.prog X.w) X σ (E σ)) (ha : PA X (e :: es) t) (hst : starEach (e :: es) X.env = (false, eval e X.env) :: starEach es X.env) (hpl : (backTo pos (starEach es X.env)).any (·.1) = false)
    (ht : eval (.Call (.Attribute o m apos) (e :: es) [] pos) X.env = (do
      let ov ← eval o X.env
      standAt apos.atName
      let (f, first) ← holding [ov] (getMethod ov m pl)
      callWith pos f first (backTo pos (starEach (e :: es) X.env)) (backToKw pos (keywordEach [] X.env)))) : PE X (.Call (.Attribute o m apos) (e :: es) [] pos) (tMethG C sp E ta t) := by
  constructor
  intro pins s σ H Q I h
  refine PySem.W.methodCall_KW (pl := pl) (thn (he.run pins s σ H _ I h) ?_) ht
  rintro u s1 ⟨x, H1, I1, rx, a, dx, vs, rfl, hsl, q⟩
  have eu : u = Value.ref a := rx
  subst eu
  apply SlX.getmethsl_ok I1 hsl c hm
  apply PySem.W.callWith_K (first := [.ref a]) (h₀ := X.base) I.ok.mod.kin hm.kp (thn (ha.run pos pins s1 σ H1 _ I1 q) ?_) hst hpl
  rintro us s2 ⟨ws, H2, I2, r, q2⟩
  refine ⟨I2.kIn, run_G (us := .ref a :: us) (vs := .ref a :: ws) F hr hb .nil (hx σ) I2 (.cons rfl r) ?_⟩
  rw [List.append_nil]
  exact q2
theorem pe_methG0 {f : Addr} {fd : FuncData} {ps : List Str} {sp : Sp} {E : L2.St → XK} {ta : TE} {pl : Sem Bool} (he : PE X o ta) (c : SlX.SCls X.K C) (hm : Meth X.K C m f) (F : FnG X.prog X.w X.K X.mg X.base (L2.CX X.prog X.w) k f fd ps sp) (hr : RoomG k X.A) (hb : Binds X.K fd ps [])
    (hx : ∀ σ, PassesAt (L2.CX X.prog X.w) X σ (E σ))
    (ht : eval (.Call (.Attribute o m apos) [] [] pos) X.env = (do
      let ov ← eval o X.env
      standAt apos.atName
      let (f, first) ← holding [ov] (getMethod ov m pl)
      callWith pos f first (backTo pos (starEach [] X.env)) (backToKw pos (keywordEach [] X.env)))) : PE X (.Call (.Attribute o m apos) [] [] pos) (tMethG C sp E ta tNil) := by
  constructor
  intro pins s σ H Q I h
  refine PySem.W.methodCall_KW (pl := pl) (thn (he.run pins s σ H _ I h) ?_) ht
  rintro u s1 ⟨x, H1, I1, rx, a, dx, vs, rfl, hsl, q⟩
  have eu : u = Value.ref a := rx
  subst eu
  apply SlX.getmethsl_ok I1 hsl c hm
  refine PySem.W.callWith_K0 (first := [.ref a]) I1.kIn hm.kp (run_G (us := [.ref a]) (vs := [.ref a]) F hr hb .nil (hx σ) I1 (.cons rfl .nil) ?_)
  exact q
@[simp] def eMeth (C : Addr) (sp : FSp) (mo : EM D) (ms : EM (List D)) : EM D := fun ρ g Q E => mo ρ g (fun d g1 => match d with
  | .obj C' fs => C' = C ∧ ms ρ g1 (fun ds g2 => sp (.obj C' fs :: ds) g2 (Hide Q ⟨⟩) E) E
  | _ => False) E
theorem ev_meth {pl : Sem Bool} (hM : Mth X.prog X.w X.K X.mg X.base C m k sp) (c : SlX.SCls X.K C) (hr : RoomG k X.A) (ho : EV X o ma) (ha : EVs X (e :: es) ms)
    (hst : starEach (e :: es) X.env = (false, eval e X.env) :: starEach es X.env := by rfl) (hpl : (backTo pos (starEach es X.env)).any (·.1) = false := by rfl)
    (ht : eval (.Call (.Attribute o m apos) (e :: es) [] pos) X.env = (do
      let ov ← eval o X.env
      standAt apos.atName
      let (f, first) ← holding [ov] (getMethod ov m pl)
      callWith pos f first (backTo pos (starEach (e :: es) X.env)) (backToKw pos (keywordEach [] X.env))) := by rfl) : EV X (.Call (.Attribute o m apos) (e :: es) [] pos) (eMeth C sp ma ms) := by
  intro B W hB L
  obtain ⟨f, fd, ps, hF, hb, hm⟩ := hM.ex
  refine pe_mono (pe_methG (E := WE (WXof B W)) (pl := pl) (ho B W hB L) c hm hF hr hb (fun σ => passAt L σ) (ha B W hB L) hst hpl ht) ?_
  rintro σ H Q ⟨F, ρ, g, QD, R, w, q⟩
  refine ⟨F, ρ, g, _, R, w, ?_⟩
  intro v1 H1 F1 g1 d1 k1 R1 r1 w1
  cases d1 with
  | obj C' fs =>
    obtain ⟨hc, w1⟩ := w1
    subst hc
    obtain ⟨a, dx, xs, rfl, hs, hr1⟩ := r1.slt R1.fh
    refine ⟨a, dx, _, rfl, hs, F1, ρ, g1, _, R1, w1, ?_⟩
    intro vs H2 F2 g2 ds k2 R2 r2 w2
    rw [← hB]
    refine ⟨F2, g2, _ :: ds, QD, _, .cons (r1.mono k2.ff) r2, R2.enter, w2, ?_, ?_⟩
    · intro v H' F' g' d D1 r w3
      exact q v H' F' g' d ((k1.trans k2).trans (Rl.ste D1)) (R2.after D1) r w3
    · intro cls dx' H' F' g' x D1 xr w3
      exact ⟨F', ρ, g', x, R2.after D1, xr, w3⟩
  | _ => exact w1.elim
theorem ev_meth0 {pl : Sem Bool} (hM : Mth X.prog X.w X.K X.mg X.base C m k sp) (c : SlX.SCls X.K C) (hr : RoomG k X.A) (ho : EV X o ma)
    (ht : eval (.Call (.Attribute o m apos) [] [] pos) X.env = (do
      let ov ← eval o X.env
      standAt apos.atName
      let (f, first) ← holding [ov] (getMethod ov m pl)
      callWith pos f first (backTo pos (starEach [] X.env)) (backToKw pos (keywordEach [] X.env))) := by rfl) : EV X (.Call (.Attribute o m apos) [] [] pos) (eMeth C sp ma esNil) := by
  intro B W hB L
  obtain ⟨f, fd, ps, hF, hb, hm⟩ := hM.ex
  refine pe_mono (pe_methG0 (E := WE (WXof B W)) (pl := pl) (ho B W hB L) c hm hF hr hb (fun σ => passAt L σ) ht) ?_
  rintro σ H Q ⟨F, ρ, g, QD, R, w, q⟩
  refine ⟨F, ρ, g, _, R, w, ?_⟩
  intro v1 H1 F1 g1 d1 k1 R1 r1 w1
  cases d1 with
  | obj C' fs =>
    obtain ⟨hc, w1⟩ := w1
    subst hc
    obtain ⟨a, dx, xs, rfl, hs, hr1⟩ := r1.slt R1.fh
    refine ⟨a, dx, _, rfl, hs, ?_⟩
    show lift X.K sp [.ref a] H1 Q _
    rw [← hB]
    refine ⟨F1, g1, [_], QD, _, .cons r1 .nil, R1.enter, w1, ?_, ?_⟩
    · intro v H' F' g' d D1 r w3
      exact q v H' F' g' d (k1.trans (Rl.ste D1)) (R1.after D1) r w3
    · intro cls dx' H' F' g' x D1 xr w3
      exact ⟨F', ρ, g', x, R1.after D1, xr, w3⟩
  | _ => exact w1.elim
/-! isinstance(x, own class) -/
@[simp] def isoD (cs : List Addr) (C : Addr) (d : D) : Option D := match d with
  | .ref _ => none
  | .obj C' _ => if C' ∈ cs then some (.bl (decide (C' = C))) else none
  | _ => some (.bl false)
/-- what the class at C answers to isinstance(x, (the class at C)) -/
structure IsC (K : PySem.W.Frag) (cs : List Addr) (C : Addr) : Prop where
  own : ∀ c ∈ cs, SlC K c ∧ PySem.W.kitOne K (.ref c) (.ref C) = some (decide (c = C))
  ty : ∀ n ∈ ["NoneType", "bool", "int", "str", "tuple", "list", "dict"], PySem.W.kitOne K (.type n) (.ref C) = some false
theorem ev_iso {x2 : Str} {p p2 : Pos} {cs : List Addr} (hc : IsC X.K cs C) (hg : Gl X "isinstance") (hm : X.mg "isinstance" = none) (hg2 : Gl X x2) (hm2 : X.mg x2 = some (.ref C)) (ha : EV X e ma) (hd2 : (x2 == ("__debug__" : Str)) = false := by decide)
    (he : starEach [e, .Name x2 p2] X.env = (false, eval e X.env) :: starEach [.Name x2 p2] X.env := by rfl) (hpl : (backTo pos (starEach [.Name x2 p2] X.env)).any (·.1) = false := by rfl)
    (he2 : starEach [.Name x2 p2] X.env = (false, eval (.Name x2 p2) X.env) :: starEach [] X.env := by rfl) : EV X (.Call (.Name "isinstance" p) [e, .Name x2 p2] [] pos) (e1 (isoD cs C) ma) := by
  intro B W hB L
  have both : CallR X (.builtin "isinstance") (fun vs H Q => rIsi X.K vs H Q ∨ SlX.rIsiSl X.K (.ref C) vs H Q) := by
    intro pins s σ H xs us Q I r h
    rcases h with h | h
    · exact call_isi pins s σ H xs us Q I r h
    · exact SlX.call_isiSl (.ref C) pins s σ H xs us Q I r h
  refine pe_mono (pe_callB both hg hm PyProof.Rows.boot_isinstance (pa_cons (ha B W hB L) (pa_cons (pe_glob (v := V.ref C) hg2 hm2 rfl hd2) pa_nil he2) he) (by decide) (by decide) he hpl) ?_
  rintro σ H Q ⟨F, ρ, g, QD, R, w, q⟩
  refine ⟨F, ρ, g, _, R, w, ?_⟩
  intro v1 H1 F1 g1 d1 k1 R1 r1 w1
  have plain : noRef d1 = true → tyN d1 ∈ ["NoneType", "bool", "int", "str", "tuple", "list", "dict"] → isoD cs C d1 = some (.bl false) → rIsi X.K [v1, .ref C] H1 Q := by
    intro h hn hd
    rw [hd] at w1
    exact ⟨v1, .ref C, .type (tyN d1), .ref C, false, rfl, .own _, by rw [← hB]; exact r1.tyX R1.fh h, hc.ty _ hn, q _ H1 F1 g1 _ k1 R1 (.bl _) w1⟩
  cases d1 with
  | obj C' fs =>
    by_cases hm : C' ∈ cs
    · have hd : isoD cs C (.obj C' fs) = some (.bl (decide (C' = C))) := by simp only [isoD, if_pos hm]
      rw [hd] at w1
      obtain ⟨a, dx, xs, rfl, hs, hr1⟩ := r1.slt R1.fh
      obtain ⟨h1, h2⟩ := hc.own C' hm
      exact .inr ⟨a, C', dx, _, .ref C, _, rfl, rfl, fun w z => z, hs, h1.c, h1.i, h2, q _ H1 F1 g1 _ k1 R1 (.bl _) w1⟩
    · have hd : isoD cs C (.obj C' fs) = none := by simp only [isoD, if_neg hm]
      rw [hd] at w1
      exact w1.elim
  | ref a => exact (show False from w1).elim
  | non => exact .inl (plain rfl (by simp [tyN]) rfl)
  | bl b => exact .inl (plain rfl (by simp [tyN]) rfl)
  | int b => exact .inl (plain rfl (by simp [tyN]) rfl)
  | str b => exact .inl (plain rfl (by simp [tyN]) rfl)
  | tup b => exact .inl (plain rfl (by simp [tyN]) rfl)
  | ptp b => exact .inl (plain rfl (by simp [tyN]) rfl)
  | lst b => exact .inl (plain rfl (by simp [tyN]) rfl)
  | dic b c => exact .inl (plain rfl (by simp [tyN]) rfl)
end
end DL

set_option Elab.async false
set_option linter.all false
set_option maxRecDepth 100000
namespace DL
open PySem PySem.Spec PyProof.Rows L2
/-! ### properties -/
theorem RoomG.in1 {k : Nat} {A : Around} (h : RoomG (k + 1) A) : RoomG k A.in1 := ⟨h.r.in1, h.gd⟩
theorem Env0.in1' {P : Program} {w : World} {K : PySem.W.Frag} {mg : Str → Option Value} {base : Heap} {A : Around} {fr : List Env} {s : Shared} {H : Hp} (e : Env0 P w K mg base A fr s H) : Env0 P w K mg base A.in1 fr s H := e.in1
/-- the property f of the class at C, its getter's promise -/
structure Prp (P : Program) (w : World) (K : PySem.W.Frag) (mg : Str → Option Value) (base : Heap) (C : Addr) (f : Str) (k : Nat) (sp : FSp) : Prop where
  ex : ∃ (p gt : Addr) (fd : FuncData) (ps : List Str) (rest : List Value), FnG P w K mg base (L2.CX P w) k gt fd ps (lift K sp) ∧ Binds K fd ps [] ∧ PySem.W.findIn K (.ref C) f = some (some (.ref p)) ∧
    PySem.W.specialIn K (.ref p) "__get__" = some (some (.builtin "property.__get__")) ∧ PySem.W.takesIn K (.ref p) = some true ∧ PySem.W.recIn K p "property" = some (.ref gt :: rest)
abbrev noX : XK := fun _ _ _ => False
section
variable {X : Cx} {C p gt : Addr} {f : Str} {k : Nat} {e : Expr} {pos : Pos} {ma : EM D} {sp : FSp}
theorem getprop_G {pins : List (Addr × Obj)} {σ : L2.St} {H : Hp} {s : Shared} {a dx : Addr} {vs : List (Option V)} {fd : FuncData} {ps : List Str} {sp : Sp} {rest : List Value} {b : Bool} {Q : VK} (I : Inv X pins σ H s) (h : SlX.Slt H a C dx vs) (c : SlX.SCls X.K C) (hr : RoomG (k + 1) X.A)
    (F : FnG X.prog X.w X.K X.mg X.base (L2.CX X.prog X.w) k gt fd ps sp) (hb : Binds X.K fd ps []) (at_ : PySem.W.findIn X.K (.ref C) f = some (some (.ref p))) (get : PySem.W.specialIn X.K (.ref p) "__get__" = some (some (.builtin "property.__get__")))
    (tk : PySem.W.takesIn X.K (.ref p) = some true) (rc : PySem.W.recIn X.K p "property" = some (.ref gt :: rest)) (q : sp [.ref a] H Q noX) : wpAny (model X.prog X.w) X.A (getAttr (.ref a) f b) (EP X pins σ Q) X.xe s := by
  obtain ⟨sl, od, _, J, _⟩ := SlX.slt_inst I h
  have I1 : Inv X pins σ H { s with toks := s.toks + 1 } := I.tok (s.toks + 1)
  have one : ([.ref a] ++ [] : List Value).length = ps.length := by rw [← F.len _ _ _ _ q]; rfl
  have go := F.run X.A.in1 X.stack { s with toks := s.toks + 1 } H ⟨[.ref a], []⟩ [.ref a] [.ref a] Q noX hr.in1 I1.env0.in1 (hb _ [.ref a] I1.kIn one) (.cons rfl .nil) q
  have pg := PySem.W.plainGet_of (c.get f)
  refine PySem.W.get_bind I.kIn J pg.1 (PySem.W.findObj_data c.ic at_ get tk) pg.2 (wpAny_call (PySem.W.prop_get (s := { s with toks := s.toks + 1 }) I.kIn rc (codeAny_mono go fun r s' hq => ?_)))
  match r, hq with
  | .error e, hq => obtain ⟨_, _, _, _, _, _, _, _, _, _, _, _, z⟩ := hq; exact z.elim
  | .ok (.ret u), hq =>
    obtain ⟨v, H', I2, rv, q⟩ := I1.after hq
    exact wpAny_of_eq (PySem.W.handedOut_of (handed_of rv)) ⟨v, H', I2, rv, q⟩
  | .ok .next, hq => exact hq.elim
  | .ok .brk, hq => exact hq.elim
  | .ok .cont, hq => exact hq.elim
def tPropG (C : Addr) (sp : Sp) (ta : TE) : TE := fun σ H Q => ta σ H fun x H1 => ∃ a dx vs, x = .ref a ∧ SlX.Slt H1 a C dx vs ∧ sp [.ref a] H1 Q noX
/-- what a getter is asked: it raises nothing -/
@[simp] def eProp (C : Addr) (sp : FSp) (mo : EM D) : EM D := fun ρ g Q E => mo ρ g (fun d g1 => match d with
  | .obj C' fs => C' = C ∧ sp [.obj C' fs] g1 (Hide Q ⟨⟩) (fun _ _ => False)
  | _ => False) E
theorem ev_prop (hP : Prp X.prog X.w X.K X.mg X.base C f k sp) (c : SlX.SCls X.K C) (hr : RoomG (k + 1) X.A) (ho : EV X e ma) (hb : attributeBase e f X.env (eval e X.env) = eval e X.env := by rfl) : EV X (.Attribute e f pos) (eProp C sp ma) := by
  intro B W hB L
  obtain ⟨p, gt, fd, ps, rest, F, hbn, a1, a2, a3, a4⟩ := hP.ex
  have pe : PE X (.Attribute e f pos) (tPropG C (lift X.K sp) (tE B W ma)) := by
    constructor
    intro pins s σ H Q I h
    apply attr_of hb (thn ((ho B W hB L).run pins s σ H _ I h) ?_)
    rintro u s1 ⟨x, H1, I1, rx, a, dx, vs, rfl, hs, q⟩
    have eu : u = Value.ref a := rx
    subst eu
    exact getprop_G I1 hs c hr F hbn a1 a2 a3 a4 q
  refine pe_mono pe ?_
  rintro σ H Q ⟨F, ρ, g, QD, R, w, q⟩
  refine ⟨F, ρ, g, _, R, w, ?_⟩
  intro v1 H1 F1 g1 d1 k1 R1 r1 w1
  cases d1 with
  | obj C' fs =>
    obtain ⟨hc, w1⟩ := w1
    subst hc
    obtain ⟨a, dx, xs, rfl, hs, hr1⟩ := r1.slt R1.fh
    refine ⟨a, dx, _, rfl, hs, ?_⟩
    rw [← hB]
    refine ⟨F1, g1, [_], QD, _, .cons r1 .nil, R1.enter, w1, ?_, ?_⟩
    · intro v H' F' g' d D1 r w3
      exact q v H' F' g' d (k1.trans (Rl.ste D1)) (R1.after D1) r w3
    · intro cls dx' H' F' g' x D1 xr w3
      exact w3
  | _ => exact w1.elim
end
end DL

set_option Elab.async false
set_option linter.all false
set_option maxRecDepth 100000
namespace DL
open PySem PySem.Spec PyProof.Rows L2
/-! ### C(..): an instance is made, its __init__ writes its slots, then it is a value -/
theorem guards_make {A : Around} {C : Addr} {us : List Value} {kw : List (Str × Value)} : (A.under (.builtin "type.__call__" ⟨.ref C :: us, kw⟩)).guards = A.guards := by
  first
  | rfl
  | simp [Around.under, Code.weight, Code.isCreation, Code.isGuard, Code.isCaller, Code.frames, Code.isFrame, guardIds, pushGuards, Code.guards]
theorem RoomG.make {k : Nat} {A : Around} (h : RoomG (k + 1) A) (C : Addr) (us : List Value) : RoomG k (A.under (.builtin "type.__call__" ⟨.ref C :: us, []⟩)) := ⟨h.r.make C us [], by rw [guards_make]; exact h.gd⟩
/-- g with a new instance of C at x, its dict at dx -/
abbrev gIns (g : G) (x C dx : Addr) (fs : List (Option D)) : G := gset (gset g dx (.aux x)) x (.ins C dx fs)
section
variable {B : Bs} {F : Hp} {ρ : Rho} {g : G} {σ : L2.St} {H : Hp} {x C dx : Addr}
theorem gIns_x {fs : List (Option D)} : gIns g x C dx fs x = some (.ins C dx fs) := gset_same
theorem gIns_d {fs : List (Option D)} (h : dx ≠ x) : gIns g x C dx fs dx = some (.aux x) := by unfold gIns; rw [gset_ne h, gset_same]
theorem gIns_ne {fs : List (Option D)} {b : Addr} (h1 : b ≠ x) (h2 : b ≠ dx) : gIns g x C dx fs b = g b := by unfold gIns; rw [gset_ne h1, gset_ne h2]
theorem Rl.newins (R : Rl B F ρ g σ H) (h1 : H x = none) (h2 : H dx = none) (ne : dx ≠ x) : Rl B F ρ (gIns g x C dx []) σ (upd (upd H dx (.own x)) x (.ins C dx [])) := by
  have gx := R.fresh_g h1
  have gd := R.fresh_g h2
  have at_ : ∀ b o, H b = some o → upd (upd H dx (.own x)) x (.ins C dx []) b = some o := fun b o e => by
    rw [upd_ne (ne_of_none e h1), upd_ne (ne_of_none e h2)]; exact e
  have dat : upd (upd H dx (.own x)) x (.ins C dx []) dx = some (.own x) := by rw [upd_ne ne, upd_same]
  refine ⟨fun b o e => at_ b o (R.fh b o e), R.f0, R.fn, fun b o e => ?_, fun b o e n => at_ b o (R.fr b o e n), fun b o e => ?_, fun i s e => ?_, R.dj, R.ln⟩
  · obtain ⟨o', e'⟩ := R.dm b o e
    exact ⟨o', at_ b o' e'⟩
  · by_cases hx : b = x
    · subst hx
      rw [gIns_x] at e
      cases e
      exact ⟨⟨gIns_d ne, [], .inl ⟨upd_same, rfl⟩, .nil⟩, R.fh.free h1, .inr (R.fresh_0 h1)⟩
    · by_cases hd : b = dx
      · subst hd
        rw [gIns_d ne] at e
        cases e
        exact ⟨.inl ⟨x, dat⟩, R.fh.free h2, .inr (R.fresh_0 h2)⟩
      · rw [gIns_ne hx hd] at e
        obtain ⟨q1, q2, q3⟩ := R.gg b o e
        refine ⟨q1.mono (fun _ _ _ r => r) (fun c w gc u q => at_ c u q) (fun c y gc => ?_) (fun _ _ z => z) e, q2, q3⟩
        rw [gIns_ne (fun z => by subst z; rw [gx] at gc; cases gc) (fun z => by subst z; rw [gd] at gc; cases gc)]
        exact gc
  · have h := R.sl i s e
    cases s with
    | no => trivial
    | val d => exact h
    | acc ds =>
      obtain ⟨p, xs, e1, f1, f2, f3, f4, f5⟩ := h
      refine ⟨p, xs, e1, at_ p _ f1, f2, f3, ?_, f5⟩
      rw [gIns_ne (fun z => by subst z; rw [h1] at f1; cases f1) (fun z => by subst z; rw [h2] at f1; cases f1)]
      exact f4
theorem RF.all {K : PySem.W.Frag} : ∀ {vs : List (Option V)} {ds : List D}, RF K F vs (ds.map some) → ∃ xs, vs = xs.map some ∧ RepL K F xs ds ∧ nolL ds = true
  | [], [], _ => ⟨[], rfl, .nil, rfl⟩
  | _, d :: ds, h => by
    cases h with
    | yes r n t =>
      obtain ⟨xs, rfl, q, q2⟩ := RF.all t
      exact ⟨_ :: xs, rfl, .cons r q, by simp [nolL, n, q2]⟩
/-- nobody writes to it any more -/
theorem Rl.lockIns (R : Rl B F ρ g σ H) {ds : List D} (hx : g x = some (.ins C dx (ds.map some))) (nn : ds ≠ []) (h0 : B.H0 x = none) (h0' : B.H0 dx = none) :
    ∃ F', Same F F' ∧ (∀ a o, F' a = some o → F a = some o ∨ a = x ∨ a = dx) ∧ Rl B F' ρ (gdel (gdel g x) dx) σ H ∧ Rep B.K F' (.ref x) (.obj C ds) := by
  obtain ⟨⟨gd, vs, hs, rf⟩, fx, _⟩ := R.gg x _ hx
  obtain ⟨_, fd, _⟩ := R.gg dx _ gd
  have ne : dx ≠ x := fun z => by subst z; rw [hx] at gd; cases gd
  obtain ⟨xs, rfl, rl, nl⟩ := rf.all
  obtain ⟨e1, e2⟩ : H x = some (SlX.SlO x C dx (xs.map some)) ∧ H dx = some (.xd []) := by
    rcases hs with ⟨_, z⟩ | z
    · have : xs = [] := by simpa using z
      subst this
      cases rl
      exact absurd rfl nn
    · exact z
  have ef : Same F (upd (upd F dx (.xd [])) x (SlX.SlO x C dx (xs.map some))) := fun b u e => by rw [upd_ne (ne_of_none e fx), upd_ne (ne_of_none e fd)]; exact e
  refine ⟨upd (upd F dx (.xd [])) x (SlX.SlO x C dx (xs.map some)), ef, fun a o e => ?_, ?_, .obj upd_same (by rw [upd_ne ne, upd_same]) (rl.mono ef)⟩
  · by_cases h1 : a = x
    · exact .inr (.inl h1)
    · by_cases h2 : a = dx
      · exact .inr (.inr h2)
      · rw [upd_ne h1, upd_ne h2] at e; exact .inl e
  refine ⟨fun b u e => ?_, R.f0.trans ef, fun b u e => ?_, R.dm, R.fr, fun b o e => ?_, fun j s e => ?_, R.dj, R.ln⟩
  · by_cases hb : b = x
    · subst hb; rw [upd_same] at e; cases e; exact e1
    · by_cases hb' : b = dx
      · subst hb'; rw [upd_ne hb, upd_same] at e; cases e; exact e2
      · rw [upd_ne hb, upd_ne hb'] at e; exact R.fh b u e
  · by_cases hb : b = x
    · subst hb; exact .inr h0
    · by_cases hb' : b = dx
      · subst hb'; exact .inr h0'
      · rw [upd_ne hb, upd_ne hb'] at e; exact R.fn b u e
  · by_cases hd : b = dx
    · subst hd; rw [gdel_same] at e; cases e
    · rw [gdel_ne hd] at e
      by_cases hb : b = x
      · subst hb; rw [gdel_same] at e; cases e
      · rw [gdel_ne hb] at e
        obtain ⟨q1, q2, q3⟩ := R.gg b o e
        have keep : ∀ c, g c = some (.aux b) → gdel (gdel g x) dx c = some (.aux b) := fun c gc => by
          have n1 : c ≠ x := fun z => by subst z; rw [hx] at gc; cases gc
          have n2 : c ≠ dx := fun z => by subst z; rw [gd] at gc; cases gc; exact hb rfl
          rw [gdel_ne n2, gdel_ne n1]; exact gc
        refine ⟨?_, by rw [upd_ne hb, upd_ne hd]; exact q2, q3⟩
        cases o with
        | ins C' dx' fs' =>
          obtain ⟨a1, vs', a2, a3⟩ := q1
          exact ⟨keep _ a1, vs', a2, a3.mono fun _ _ _ r => r.mono ef⟩
        | dice => exact q1
        | dct kds => exact q1
        | aux c => exact q1
        | tab q =>
          obtain ⟨ps, z1, z2, z3⟩ := q1
          refine ⟨ps, z1, z2, fun pos cv hc => ?_⟩
          obtain ⟨c, e1, e2⟩ := z3 pos cv hc
          exact ⟨c, e1, ef _ _ e2⟩
  · have h := R.sl j s e
    cases s with
    | no => trivial
    | val d => obtain ⟨v, e1, r⟩ := h; exact ⟨v, e1, r.mono ef⟩
    | acc ds =>
      obtain ⟨p, ys, g1, f1, f2, f3, f4, f5⟩ := h
      have n1 : p ≠ x := fun q => by subst q; rw [hx] at f4; cases f4
      have n2 : p ≠ dx := fun q => by subst q; rw [gd] at f4; cases f4
      exact ⟨p, ys, g1, f1, f2.mono ef, by rw [upd_ne n1, upd_ne n2]; exact f3, by rw [gdel_ne n2, gdel_ne n1]; exact f4, f5⟩
end
end DL

set_option Elab.async false
set_option linter.all false
set_option maxRecDepth 100000
namespace DL
open PySem PySem.Spec PyProof.Rows L2
/-- how an instance of the class at C is made -/
structure Ini (P : Program) (w : World) (K : PySem.W.Frag) (mg : Str → Option Value) (base : Heap) (C : Addr) (k : Nat) (sp : FSp) : Prop where
  ex : ∃ (f : Addr) (fd : FuncData) (ps : List Str), FnG P w K mg base (L2.CX P w) k f fd ps (lift K sp) ∧ Binds K fd ps [] ∧ Mk K C f
section
variable {X : Cx} {C : Addr} {k : Nat} {e : Expr} {es : List Expr} {pos p : Pos} {x : Str} {ms : EM (List D)} {sp : FSp}
theorem run_makeG {pins : List (Addr × Obj)} {σ : L2.St} {H : Hp} {s : Shared} {Q : VK} {us : List Value} {vs : List V} {f : Addr} {fd : FuncData} {ps : List Str} {sp : Sp} {E : L2.St → XK} (M : Mk X.K C f) (F : FnG X.prog X.w X.K X.mg X.base (L2.CX X.prog X.w) k f fd ps sp) (hr : RoomG (k + 1) X.A)
    (hb : Binds X.K fd ps []) (hx : PassesAt (L2.CX X.prog X.w) X σ (E σ)) (I : Inv X pins σ H s) (r : Vals vs us)
    (h : ∀ x dx, H x = none → H dx = none → dx ≠ x → sp (.ref x :: vs) (upd (upd H dx (.own x)) x (.ins C dx [])) (fun v H2 => v = .non ∧ Q (.ref x) H2) (E σ)) :
    wpAny (model X.prog X.w) X.A (call (.ref C) us) (EP X pins σ Q) X.xe s := by
  have q0 := h (s.heap.objs.size + 1) s.heap.objs.size (I.hok.fresh (Nat.le_succ _)) (I.hok.fresh (Nat.le_refl _)) (Nat.ne_of_lt (Nat.lt_succ_self _))
  have J := Inv.made (C := C) I
  have rr : Vals (V.ref (s.heap.objs.size + 1) :: vs) (Value.ref (s.heap.objs.size + 1) :: us) := .cons rfl r
  have le : ((Value.ref (s.heap.objs.size + 1) :: us) ++ ([] : List Value)).length = ps.length := by
    rw [List.append_nil, ← rr.length]; exact F.len _ _ _ _ q0
  have bi := hb _ (Value.ref (s.heap.objs.size + 1) :: us) J.kIn le
  rw [List.append_nil] at bi
  have go := F.run _ X.stack _ _ ⟨Value.ref (s.heap.objs.size + 1) :: us, []⟩ _ _ _ (E σ) (hr.make C us) (J.env0.make C us []) bi rr q0
  refine wpAny_call (make_map (f := f) I.kIn M.makes M.init (beq_iff_eq.mp M.fn) (codeAny_mono go fun res s' hq => ?_))
  match res, hq with
  | .error e, hq => exact hx pins _ _ e s' J hq
  | .ok (.ret u), hq =>
    obtain ⟨v, H', I3, rv, rfl, q3⟩ := J.after hq
    exact ⟨rv, V.ref (s.heap.objs.size + 1), H', I3, rfl, q3⟩
  | .ok .next, hq => exact hq.elim
  | .ok .brk, hq => exact hq.elim
  | .ok .cont, hq => exact hq.elim
def tMakeG (C : Addr) (sp : Sp) (E : L2.St → XK) (t : TA) : TE := fun σ H Q => t σ H fun vs H1 => ∀ x dx, H1 x = none → H1 dx = none → dx ≠ x →
  sp (.ref x :: vs) (upd (upd H1 dx (.own x)) x (.ins C dx [])) (fun v H2 => v = .non ∧ Q (.ref x) H2) (E σ)
theorem pe_makeG {f : Addr} {fd : FuncData} {ps : List Str} {sp : Sp} {E : L2.St → XK} {t : TA} (M : Mk X.K C f) (F : FnG X.prog X.w X.K X.mg X.base (L2.CX X.prog X.w) k f fd ps sp) (hr : RoomG (k + 1) X.A) (hg : Gl X x) (hm : X.mg x = some (.ref C))
    (hb : Binds X.K fd ps []) (hx : ∀ σ, PassesAt (L2.CX X.prog X.w) X σ (E σ)) (ha : PA X (e :: es) t) (hdb : (x == ("__debug__" : Str)) = false) (he : starEach (e :: es) X.env = (false, eval e X.env) :: starEach es X.env) (hpl : (backTo pos (starEach es X.env)).any (·.1) = false) :
    PE X (.Call (.Name x p) (e :: es) [] pos) (tMakeG C sp E t) := by
  constructor
  intro pins s σ H Q I h
  apply wpAny_Call_Name_kw
  apply ld_glob I hg hm ?_ hdb
  apply PySem.W.callWith_K (h₀ := X.base) I.ok.mod.kin M.kp (thn (ha.run pos pins s σ H _ I h) ?_) he hpl
  rintro us s1 ⟨vs, H1, I1, r, q⟩
  exact ⟨I1.kIn, run_makeG M F hr hb (hx σ) I1 r q⟩
/-- C(e, ..): the new instance is a value -/
@[simp] def eNew (C : Addr) (sp : FSp) (ms : EM (List D)) : EM D := fun ρ g Q E => ms ρ g (fun ds g1 => ∀ x dx, g1 x = none → g1 dx = none → dx ≠ x →
  sp (.ref x :: ds) (gIns g1 x C dx []) (Hide (fun r g2 => r = .non ∧ ∃ fs : List D, fs ≠ [] ∧ g2 = gIns g1 x C dx (fs.map some) ∧ Q (.obj C fs) g1) ⟨⟩) E) E
theorem make_w {B : Bs} {W : Wi} (hB : B.K = X.K) : ∀ σ H Q, tE B W (eNew C sp ms) σ H Q → tMakeG C (lift B.K sp) (WE (WXof B W)) (tEs B W ms) σ H Q := by
  rintro σ H Q ⟨F, ρ, g, QD, R, w, q⟩
  refine ⟨F, ρ, g, _, R, w, ?_⟩
  intro vs H1 F1 g1 ds k1 R1 r1 w1 x dx hx hdx ne
  have R2 := R1.newins (C := C) hx hdx ne
  have gx := R1.fresh_g hx
  have gd := R1.fresh_g hdx
  have at_ : ∀ b o, H1 b = some o → upd (upd H1 dx (.own x)) x (.ins C dx []) b = some o := fun b o e => by
    rw [upd_ne (ne_of_none e hx), upd_ne (ne_of_none e hdx)]; exact e
  refine ⟨F1, _, .ref x :: ds, _, _, .cons (.ref x) r1, R2.enter, w1 x dx gx gd ne, ?_, ?_⟩
  · intro v H' F' g' d D1 r w3
    obtain ⟨rfl, fs, nn, rfl, w4⟩ := w3
    cases r
    have R3 := R2.after D1
    obtain ⟨F2, ef, nf, R4, rp⟩ := R3.lockIns (x := x) (dx := dx) (C := C) gIns_x nn (R1.fresh_0 hx) (R1.fresh_0 hdx)
    have eg : gdel (gdel (gIns g1 x C dx (fs.map some)) x) dx = g1 := by
      funext b
      by_cases h1 : b = dx
      · subst h1; rw [gdel_same, gd]
      · rw [gdel_ne h1]
        by_cases h2 : b = x
        · subst h2; rw [gdel_same, gx]
        · rw [gdel_ne h2, gIns_ne h2 h1]
    rw [eg] at R4
    have st := Rl.ste D1
    refine ⟨rfl, q _ H' F2 g1 _ (k1.trans ⟨st.ff.trans ef, fun a o e n => ⟨(st.kp a o (at_ a o e) ?_).1, n⟩, fun a o e => st.dm a o (at_ a o e), fun a o e => ?_⟩) R4 rp w4⟩
    · rw [gIns_ne (ne_of_none e hx) (ne_of_none e hdx)]; exact n
    · rcases nf a o e with z | rfl | rfl
      · rcases st.fn a o z with z | z
        · exact .inl z
        · refine .inr ?_
          cases h : H1 a with
          | none => rfl
          | some u => rw [at_ a u h] at z; cases z
      · exact .inr hx
      · exact .inr hdx
  · intro cls dx' H' F' g' y D1 xr w3
    exact ⟨F', ρ, g', y, R2.after D1, xr, w3⟩
theorem ev_make (hI : Ini X.prog X.w X.K X.mg X.base C k sp) (hr : RoomG (k + 1) X.A) (hg : Gl X x) (hm : X.mg x = some (.ref C)) (ha : EVs X (e :: es) ms) (hdb : (x == ("__debug__" : Str)) = false := by decide)
    (he : starEach (e :: es) X.env = (false, eval e X.env) :: starEach es X.env := by rfl) (hpl : (backTo pos (starEach es X.env)).any (·.1) = false := by rfl) : EV X (.Call (.Name x p) (e :: es) [] pos) (eNew C sp ms) := by
  intro B W hB L
  obtain ⟨f, fd, ps, hF, hb, hM⟩ := hI.ex
  refine pe_mono (pe_makeG (E := WE (WXof B W)) hM hF hr hg hm hb (fun σ => passAt L σ) (ha B W hB L) hdb he hpl) ?_
  intro σ H Q h
  rw [← hB]
  exact make_w hB σ H Q h
end
end DL

set_option Elab.async false
set_option linter.all false
set_option maxRecDepth 100000
namespace DL
open PySem PySem.Spec PyProof.Rows L2
/-! ### self.f = .., self.f, self.g = .. in an __init__ -/
def putF (j : Nat) (d : D) (fs : List (Option D)) : List (Option D) := (fs ++ List.replicate (j + 1 - fs.length) none).set j (some d)
def putsF : List Nat → List D → List (Option D) → List (Option D)
  | j :: js, d :: ds, fs => putsF js ds (putF j d fs)
  | _, _, fs => fs
theorem RF.length {K : PySem.W.Frag} {F : Hp} {vs : List (Option V)} {fs : List (Option D)} (h : RF K F vs fs) : vs.length = fs.length := by
  induction h with
  | nil => rfl
  | no _ ih => simp [ih]
  | yes _ _ _ ih => simp [ih]
theorem RF.pad {K : PySem.W.Frag} {F : Hp} {vs : List (Option V)} {fs : List (Option D)} (h : RF K F vs fs) : ∀ n : Nat, RF K F (vs ++ List.replicate n none) (fs ++ List.replicate n none) := by
  intro n
  induction h with
  | nil =>
    induction n with
    | zero => exact .nil
    | succ n ih => exact .no ih
  | no _ ih => exact .no ih
  | yes r q _ ih => exact .yes r q ih
theorem RF.set {K : PySem.W.Frag} {F : Hp} {v : V} {d : D} (r : Rep K F v d) (q : nol d = true) {vs : List (Option V)} {fs : List (Option D)} (h : RF K F vs fs) : ∀ j : Nat, RF K F (vs.set j (some v)) (fs.set j (some d)) := by
  induction h with
  | nil => exact fun _ => .nil
  | no t ih =>
    intro j
    cases j with
    | zero => exact .yes r q t
    | succ j => exact .no (ih j)
  | yes r' q' t ih =>
    intro j
    cases j with
    | zero => exact .yes r q t
    | succ j => exact .yes r' q' (ih j)
theorem RF.put {K : PySem.W.Frag} {F : Hp} {v : V} {d : D} (r : Rep K F v d) (q : nol d = true) {vs : List (Option V)} {fs : List (Option D)} (h : RF K F vs fs) (j : Nat) : RF K F (SlX.putS j v vs) (putF j d fs) := by
  unfold SlX.putS putF
  rw [h.length]
  exact (h.pad _).set r q j
section
variable {B : Bs} {F : Hp} {ρ : Rho} {g : G} {σ : L2.St} {H : Hp} {a C dx : Addr}
theorem Rl.putF (R : Rl B F ρ g σ H) {fs : List (Option D)} (ga : g a = some (.ins C dx fs)) {v : V} {d : D} (r : Rep B.K F v d) (n : nol d = true) (j : Nat) :
    ∃ vs, SlX.Slt H a C dx vs ∧ Rl B F ρ (gset g a (.ins C dx (putF j d fs))) σ (SlX.slH H a C dx (SlX.putS j v vs)) := by
  obtain ⟨⟨gd, vs, hs, rf⟩, fa, ba⟩ := R.gg a _ ga
  obtain ⟨_, fd, bd⟩ := R.gg dx _ gd
  have ne : dx ≠ a := fun z => by subst z; rw [ga] at gd; cases gd
  have oth : ∀ b, b ≠ a → b ≠ dx → SlX.slH H a C dx (SlX.putS j v vs) b = H b := fun b h1 h2 => SlX.slH_ne h1 h2
  have at_a : SlX.slH H a C dx (SlX.putS j v vs) a = some (SlX.SlO a C dx (SlX.putS j v vs)) := upd_same
  have at_d : SlX.slH H a C dx (SlX.putS j v vs) dx = some (.xd []) := by unfold SlX.slH; rw [upd_ne ne, upd_same]
  have nf : ∀ b o, F b = some o → b ≠ a ∧ b ≠ dx := fun b o e => ⟨fun z => (by subst z; rw [fa] at e; cases e), fun z => (by subst z; rw [fd] at e; cases e)⟩
  have n0 : ∀ b o, B.H0 b = some o → B.g0 b = none → b ≠ a ∧ b ≠ dx := by
    intro b o e q
    constructor
    · intro z
      subst z
      rcases ba with ⟨_, z⟩ | z
      · rw [q] at z; cases z
      · rw [e] at z; cases z
    · intro z
      subst z
      rcases bd with ⟨_, z⟩ | z
      · rw [q] at z; cases z
      · rw [e] at z; cases z
  have gdd : gset g a (.ins C dx (DL.putF j d fs)) dx = some (.aux a) := by rw [gset_ne ne]; exact gd
  refine ⟨vs, hs, fun b o e => by rw [oth b (nf b o e).1 (nf b o e).2]; exact R.fh b o e, R.f0, R.fn, fun b o e => ?_, fun b o e q => by rw [oth b (n0 b o e q).1 (n0 b o e q).2]; exact R.fr b o e q, fun b o e => ?_, fun i s e => ?_, R.dj, R.ln⟩
  · by_cases h1 : b = a
    · subst h1; exact ⟨_, at_a⟩
    · by_cases h2 : b = dx
      · subst h2; exact ⟨_, at_d⟩
      · rw [oth b h1 h2]; exact R.dm b o e
  · by_cases h1 : b = a
    · subst h1
      rw [gset_same] at e
      cases e
      exact ⟨⟨gdd, _, SlX.slH_slt ne, rf.put r n j⟩, fa, ba⟩
    · rw [gset_ne h1] at e
      obtain ⟨q1, q2, q3⟩ := R.gg b o e
      refine ⟨?_, q2, q3⟩
      by_cases h2 : b = dx
      · subst h2
        rw [gd] at e
        cases e
        exact .inr at_d
      · have stay : ∀ u, H b = some u → SlX.slH H a C dx (SlX.putS j v vs) b = some u := fun u q => by rw [oth b h1 h2]; exact q
        cases o with
        | dice => obtain ⟨x, y, z, q⟩ := q1; exact ⟨x, y, z, stay _ q⟩
        | dct kds => obtain ⟨kvs, q, q'⟩ := q1; exact ⟨kvs, stay _ q, q'⟩
        | aux c => exact q1.imp (fun ⟨x, z⟩ => ⟨x, stay _ z⟩) fun z => stay _ z
        | tab q => obtain ⟨ps, q, q'⟩ := q1; exact ⟨ps, stay _ q, q'⟩
        | ins C' dx' fs' =>
          obtain ⟨p1, vs', p2, p3⟩ := q1
          have e1 : dx' ≠ a := fun z => by subst z; rw [ga] at p1; cases p1
          have e2 : dx' ≠ dx := fun z => by subst z; rw [gd] at p1; cases p1; exact h1 rfl
          exact ⟨by rw [gset_ne e1]; exact p1, vs', p2.imp (fun z => ⟨stay _ z.1, z.2⟩) fun z => ⟨stay _ z.1, by rw [oth dx' e1 e2]; exact z.2⟩, p3⟩
  · have h := R.sl i s e
    cases s with
    | no => trivial
    | val d => exact h
    | acc ds =>
      obtain ⟨p, xs, e1, f1, f2, f3, f4, f5⟩ := h
      have p1 : p ≠ a := fun q => by subst q; rw [ga] at f4; cases f4
      have p2 : p ≠ dx := fun q => by subst q; rw [gd] at f4; cases f4
      exact ⟨p, xs, e1, by rw [oth p p1 p2]; exact f1, f2, f3, by rw [gset_ne p1]; exact f4, f5⟩
end
section
variable {X : Cx} {C p : Addr} {f x : Str} {i j : Nat} {e : Expr} {pos apos xpos : Pos} {m : EM D}
def gSlf (i : Nat) (C : Addr) (j : Nat) : TG := fun v σ H Q => ∃ a dx vs, σ[i]? = some (some (.ref a)) ∧ SlX.Slt H a C dx vs ∧ Q σ (SlX.slH H a C dx (SlX.putS j v vs))
theorem pg_self (c : SlX.SCls X.K C) (t : SlX.Slot1 X.K C f p j) (hN : X.N[i]? = some x := by rfl) (hv : Vis X.env.scope x := by first | exact Or.inl rfl | exact Or.inr (Or.inl rfl) | exact Or.inr (Or.inr rfl)) (hd : (x == ("__debug__" : Str)) = false := by decide) (hcd : (x == ("__classdict__" : Str)) = false := by decide) :
    PG X (.Attribute (.Name x xpos) f pos) (gSlf i C j) := by
  constructor
  intro pins s σ H v u Q I r h
  obtain ⟨a, dx, vs, hi, hs, q⟩ := h
  apply PySem.W.kas_attr
  refine thn ((pe_var (X := X) (pos := xpos) (i := i) hN hv hd hcd).run pins s σ H (fun w H1 => w = .ref a ∧ H1 = H) I ⟨.ref a, hi, rfl, rfl⟩) ?_
  rintro ov s1 ⟨w, H1, I1, rw1, e1, e2⟩
  subst e1
  rw [e2] at I1
  have eo : ov = Value.ref a := rw1
  subst eo
  exact SlX.setslot_ok I1 hs c t r fun s2 I2 => ⟨σ, _, I2, q⟩
/-- self.f = e -/
@[simp] def sPutF (i : Nat) (C : Addr) (j : Nat) (m : EM D) : SM := fun DD W ρ g => m ρ g (fun d g1 => match ρ[i]? with
  | some (.val (.ref a)) => nol d = true ∧ ∃ dx fs, g1 a = some (.ins C dx fs) ∧ DD.nx ρ (gset g1 a (.ins C dx (putF j d fs)))
  | _ => False) (fun x g' => W x ρ g')
theorem sv_putF (c : SlX.SCls X.K C) (t : ∃ p, SlX.Slot1 X.K C f p j) (he : EV X e m) (hN : X.N[i]? = some x := by rfl) (hv : Vis X.env.scope x := by first | exact Or.inl rfl | exact Or.inr (Or.inl rfl) | exact Or.inr (Or.inr rfl)) (hd : (x == ("__debug__" : Str)) = false := by decide) (hcd : (x == ("__classdict__" : Str)) = false := by decide)
    (hs : swapsWithSole [.Attribute (.Name x xpos) f apos] e pos.line X.env = pure false := by rfl) (hw : swappedStores [.Attribute (.Name x xpos) f apos] e X.env = pure none := by rfl)
    (h1 : (assignEach [.Attribute (.Name x xpos) f apos] X.env).map (·.2) = [assign (.Attribute (.Name x xpos) f apos) X.env] := by rfl) : SV X (.Assign [.Attribute (.Name x xpos) f apos] e pos) (sPutF i C j m) := by
  obtain ⟨p, t⟩ := t
  intro B W hB L
  refine ps_mono (ps_asg (he B W hB L) (pg_self (i := i) c t hN hv hd hcd) hs hw h1) ?_
  rintro D σ H ⟨F, ρ, g, DD, R, w, q⟩
  refine ⟨F, ρ, g, _, R, w, fun v H' F' g' d k R' r w' => ?_⟩
  split at w'
  · rename_i a hi
    obtain ⟨n, dx, fs, ga, w'⟩ := w'
    obtain ⟨v2, e2, r2⟩ := R'.sl i _ hi
    cases r2
    obtain ⟨vs, hs', R2⟩ := R'.putF ga r n j
    exact ⟨a, dx, vs, e2, hs', q.nx _ _ F' ρ _ k.ff R2 w'⟩
  · exact w'.elim
/-- self.f, self.g = e -/
def gSlfs (i : Nat) (C : Addr) : List Nat → TGs
  | [] => gNil
  | j :: js => gCons (gSlf i C j) (gSlfs i C js)
theorem gset_self {g : G} {a : Addr} {o : O} (h : g a = some o) : gset g a o = g := by
  funext b
  by_cases q : b = a
  · subst q; rw [gset_same, h]
  · rw [gset_ne q]
theorem slfs_w {B : Bs} {F : Hp} {ρ : Rho} {σ : L2.St} {a dx : Addr} {Q : L2.St → Hp → Prop} (hi : ρ[i]? = some (.val (.ref a))) : ∀ (js : List Nat) (xs : List V) (ds : List D) (fs : List (Option D)) (g : G) (H : Hp), Rl B F ρ g σ H → g a = some (.ins C dx fs) → RepL B.K F xs ds → nolL ds = true →
    js.length = ds.length → (∀ H', Rl B F ρ (gset g a (.ins C dx (putsF js ds fs))) σ H' → Q σ H') → gSlfs i C js xs σ H Q
  | [], xs, ds, fs, g, H, R, ga, r, n, l, q => by
    have : ds = [] := List.length_eq_zero_iff.mp l.symm
    subst this
    cases r
    exact ⟨rfl, q H (by show Rl B F ρ (gset g a (.ins C dx fs)) σ H; rw [gset_self ga]; exact R)⟩
  | j :: js, xs, [], fs, g, H, R, ga, r, n, l, q => by cases l
  | j :: js, xs, d :: ds, fs, g, H, R, ga, r, n, l, q => by
    cases r with
    | cons r1 r2 =>
      have n' : nol d = true ∧ nolL ds = true := by simpa [nolL] using n
      obtain ⟨v2, e2, r3⟩ := R.sl i _ hi
      cases r3
      obtain ⟨vs, hs, R2⟩ := R.putF ga r1 n'.1 j
      refine ⟨_, _, rfl, a, dx, vs, e2, hs, slfs_w hi js _ ds (putF j d fs) _ _ R2 gset_same r2 n'.2 (by simpa using l) fun H' R3 => q H' ?_⟩
      rw [gset_gset] at R3
      exact R3
@[simp] def sPutsF (i : Nat) (C : Addr) (js : List Nat) (m : EM D) : SM := fun DD W ρ g => m ρ g (fun d g1 => match ρ[i]?, seqT d with
  | some (.val (.ref a)), some ds => (nolL ds = true ∧ js.length = ds.length) ∧ ∃ dx fs, g1 a = some (.ins C dx fs) ∧ DD.nx ρ (gset g1 a (.ins C dx (putsF js ds fs)))
  | _, _ => False) (fun x g' => W x ρ g')
def EF (X : Cx) (i : Nat) (C : Addr) (ts : List Expr) (js : List Nat) : Prop := PGs X ts (gSlfs i C js)
theorem ef_nil : EF X i C [] [] := pgs_nil
theorem ef_cons {ts : List Expr} {js : List Nat} (c : SlX.SCls X.K C) (t : ∃ p, SlX.Slot1 X.K C f p j) (h : EF X i C ts js) (hN : X.N[i]? = some x := by rfl) (hv : Vis X.env.scope x := by first | exact Or.inl rfl | exact Or.inr (Or.inl rfl) | exact Or.inr (Or.inr rfl)) (hd : (x == ("__debug__" : Str)) = false := by decide) (hcd : (x == ("__classdict__" : Str)) = false := by decide)
    (hs : (assignEach (.Attribute (.Name x xpos) f apos :: ts) X.env).map (·.2) = assign (.Attribute (.Name x xpos) f apos) X.env :: (assignEach ts X.env).map (·.2) := by rfl) : EF X i C (.Attribute (.Name x xpos) f apos :: ts) (j :: js) := t.elim fun _ t => pgs_cons (pg_self (i := i) c t hN hv hd hcd) h hs
theorem sv_putsF {ts : List Expr} {js : List Nat} {k : Nat} {tpos : Pos} (hc : X.calm = true) (ht : EF X i C ts js) (he : EV X e m) (hn : (assignEach ts X.env).length = js.length := by rfl) (hst : (assignEach ts X.env).findIdx? (·.1) = none := by rfl)
    (hs : swapsWithSole [.Tuple ts k tpos] e pos.line X.env = pure false := by rfl) (hw : swappedStores [.Tuple ts k tpos] e X.env = pure none := by rfl)
    (h1 : (assignEach [.Tuple ts k tpos] X.env).map (·.2) = [assign (.Tuple ts k tpos) X.env] := by rfl) : SV X (.Assign [.Tuple ts k tpos] e pos) (sPutsF i C js m) := by
  intro B W hB L
  refine ps_mono (ps_asg (he B W hB L) (pg_tup hc ht hn hst) hs hw h1) ?_
  rintro D σ H ⟨F, ρ, g, DD, R, w, q⟩
  refine ⟨F, ρ, g, _, R, w, fun v H' F' g' d k R' r w' => ?_⟩
  split at w'
  · rename_i a ds hi hsq
    obtain ⟨⟨n, l⟩, dx, fs, ga, w'⟩ := w'
    have both : ∃ ad xs, v = .ref ad ∧ SqT B.K H' ad xs ∧ RepL B.K F' xs ds := by
      cases d <;> simp [seqT] at hsq
      · subst hsq
        cases r with
        | tup ha hr => exact ⟨_, _, rfl, same_sqT R'.fh ha.sqT, hr⟩
      · subst hsq
        cases r with
        | ptp ha hr => exact ⟨_, _, rfl, same_sqT R'.fh ha, hr⟩
    obtain ⟨ad, xs, rfl, hq, hr⟩ := both
    rw [hB] at hq
    exact ⟨ad, xs, rfl, hq, by rw [hr.length, l], slfs_w hi js xs ds fs g' H' R' ga hr n l fun H2 R2 => q.nx _ _ F' ρ _ k.ff R2 w'⟩
  · exact w'.elim
end
end DL

set_option Elab.async false
set_option linter.all false
set_option maxRecDepth 100000
namespace DL
open PySem PySem.Spec PyProof.Rows L2
/-! ### C.m(..), m a classmethod; cls(..) in it -/
structure CMth (P : Program) (w : World) (K : PySem.W.Frag) (mg : Str → Option Value) (base : Heap) (C : Addr) (m : Str) (k : Nat) (sp : FSp) : Prop where
  ex : ∃ (p g : Addr) (mc : Value) (fd : FuncData) (ps : List Str), FnG P w K mg base (L2.CX P w) k g fd ps (lift K sp) ∧ Binds K fd ps [] ∧ ClX.CRead K C mc ∧ ClX.CMet K C mc m p g
section
variable {X : Cx} {C : Addr} {k i : Nat} {e : Expr} {es : List Expr} {pos p apos : Pos} {x m : Str} {ms : EM (List D)} {sp : FSp} {pl : Sem Bool}
/-- run_G, as code -/
theorem run_Gc {pins : List (Addr × Obj)} {σ : L2.St} {H : Hp} {s : Shared} {Q : VK} {us : List Value} {vs : List V} {f : Addr} {fd : FuncData} {ps : List Str} {sp : Sp} {E : L2.St → XK}
    (F : FnG X.prog X.w X.K X.mg X.base (L2.CX X.prog X.w) k f fd ps sp) (hr : RoomG k X.A) (hb : Binds X.K fd ps []) (hx : PassesAt (L2.CX X.prog X.w) X σ (E σ)) (I : Inv X pins σ H s) (r : Vals vs us) (h : sp vs H Q (E σ)) :
    codeAny (model X.prog X.w) X.A (.call (.ref f) ⟨us, []⟩) (fun r s' => match r with | .ok (.ret v) => EP X pins σ Q v s' | .ok _ => False | .error e => X.xe e s') s := by
  have le : (us ++ ([] : List Value)).length = ps.length := by rw [List.append_nil, ← r.length]; exact F.len _ _ _ _ h
  have bi := hb s us I.kIn le
  rw [List.append_nil] at bi
  refine codeAny_mono (F.run X.A X.stack s H ⟨us, []⟩ us vs Q (E σ) hr I.env0 bi r h) fun res s' hq => ?_
  match res, hq with
  | .error e, hq => exact hx pins H s e s' I hq
  | .ok (.ret u), hq => exact I.after hq
  | .ok .next, hq => exact hq.elim
  | .ok .brk, hq => exact hq.elim
  | .ok .cont, hq => exact hq.elim
def tCMethG (C : Addr) (sp : Sp) (E : L2.St → XK) (t : TA) : TE := fun σ H Q => t σ H fun vs H2 => sp (.ref C :: vs) H2 Q (E σ)
theorem pe_cmethG {pr g : Addr} {mc : Value} {fd : FuncData} {ps : List Str} {sp : Sp} {E : L2.St → XK} {t : TA} (hg : Gl X x) (hm : X.mg x = some (.ref C)) (r : ClX.CRead X.K C mc) (c : ClX.CMet X.K C mc m pr g) (F : FnG X.prog X.w X.K X.mg X.base (L2.CX X.prog X.w) k g fd ps sp) (hr : RoomG k X.A) (hb : Binds X.K fd ps [])
    (hx : ∀ σ, PassesAt (L2.CX X.prog X.w) X σ (E σ)) (ha : PA X (e :: es) t) (hdb : (x == ("__debug__" : Str)) = false) (hst : starEach (e :: es) X.env = (false, eval e X.env) :: starEach es X.env) (hpl : (backTo pos (starEach es X.env)).any (·.1) = false)
    (ht : eval (.Call (.Attribute (.Name x p) m apos) (e :: es) [] pos) X.env = (do
      let ov ← eval (.Name x p) X.env
      standAt apos.atName
      let (f, first) ← holding [ov] (getMethod ov m pl)
      callWith pos f first (backTo pos (starEach (e :: es) X.env)) (backToKw pos (keywordEach [] X.env)))) : PE X (.Call (.Attribute (.Name x p) m apos) (e :: es) [] pos) (tCMethG C sp E t) := by
  constructor
  intro pins s σ H Q I h
  refine PySem.W.methodCall_KW (pl := pl) (thn ((pe_glob (X := X) (pos := p) (v := V.ref C) hg hm rfl hdb).run pins s σ H (fun v H1 => v = .ref C ∧ H1 = H) I ⟨rfl, rfl⟩) ?_) ht
  rintro u s1 ⟨v, H1, I1, r1, e1, e2⟩
  subst e1
  rw [e2] at I1
  have eu : u = Value.ref C := r1
  subst eu
  refine ClX.getmethcm_ok I1 r c fun s2 I2 => ?_
  refine ClX.callwith_cm I2 (ClX.base_none I1 (Nat.le_refl _)) c.fi (thn (ha.run pos _ s2 σ H _ I2 h) ?_) hst hpl
  rintro us s3 ⟨vs, H2, I3, rv, q2⟩
  refine ⟨⟨ClX.pin_at I3, I3.kIn⟩, ?_⟩
  have body := run_Gc (us := .ref C :: us) (vs := .ref C :: vs) F hr hb (hx σ) I3 (.cons rfl rv) (Q := Q) q2
  have got : wpAny (model X.prog X.w) X.A (call (.ref s1.heap.objs.size) us) (EP X ((s1.heap.objs.size, PySem.W.methodObj (.ref g) (.ref C)) :: pins) σ Q) X.xe s3 := wpAny_call (PySem.W.method_call (ClX.pin_at I3) body)
  exact thn got fun _ _ y => ClX.unpinE y
@[simp] def eCM (C : Addr) (sp : FSp) (ms : EM (List D)) : EM D := fun ρ g Q E => ms ρ g (fun ds g1 => sp (.ref C :: ds) g1 (Hide Q ⟨⟩) E) E
theorem ev_cmeth (hM : CMth X.prog X.w X.K X.mg X.base C m k sp) (hr : RoomG k X.A) (hg : Gl X x) (hm : X.mg x = some (.ref C)) (ha : EVs X (e :: es) ms) (hdb : (x == ("__debug__" : Str)) = false := by decide)
    (hst : starEach (e :: es) X.env = (false, eval e X.env) :: starEach es X.env := by rfl) (hpl : (backTo pos (starEach es X.env)).any (·.1) = false := by rfl)
    (ht : eval (.Call (.Attribute (.Name x p) m apos) (e :: es) [] pos) X.env = (do
      let ov ← eval (.Name x p) X.env
      standAt apos.atName
      let (f, first) ← holding [ov] (getMethod ov m pl)
      callWith pos f first (backTo pos (starEach (e :: es) X.env)) (backToKw pos (keywordEach [] X.env))) := by rfl) : EV X (.Call (.Attribute (.Name x p) m apos) (e :: es) [] pos) (eCM C sp ms) := by
  intro B W hB L
  obtain ⟨pr, g0, mc, fd, ps, hF, hb, r, c⟩ := hM.ex
  refine pe_mono (pe_cmethG (E := WE (WXof B W)) (pl := pl) hg hm r c hF hr hb (fun σ => passAt L σ) (ha B W hB L) hdb hst hpl ht) ?_
  rintro σ H Q ⟨F, ρ, g, QD, R, w, q⟩
  refine ⟨F, ρ, g, _, R, w, ?_⟩
  intro vs H1 F1 g1 ds k1 R1 r1 w1
  rw [← hB]
  refine ⟨F1, g1, .ref C :: ds, QD, _, .cons (.ref C) r1, R1.enter, w1, ?_, ?_⟩
  · intro v H' F' g' d D1 r w2
    exact q v H' F' g' d (k1.trans (Rl.ste D1)) (R1.after D1) r w2
  · intro cls dx H' F' g' y D1 xr w2
    exact ⟨F', ρ, g', y, R1.after D1, xr, w2⟩
/-! cls(..), cls a name that holds the class -/
theorem pe_makeL {f : Addr} {fd : FuncData} {ps : List Str} {sp : Sp} {E : L2.St → XK} {t : TA} (M : Mk X.K C f) (F : FnG X.prog X.w X.K X.mg X.base (L2.CX X.prog X.w) k f fd ps sp) (hr : RoomG (k + 1) X.A) (hN : X.N[i]? = some x) (hv : Vis X.env.scope x)
    (hb : Binds X.K fd ps []) (hx : ∀ σ, PassesAt (L2.CX X.prog X.w) X σ (E σ)) (ha : PA X (e :: es) t) (hdb : (x == ("__debug__" : Str)) = false) (hcd : (x == ("__classdict__" : Str)) = false) (he : starEach (e :: es) X.env = (false, eval e X.env) :: starEach es X.env) (hpl : (backTo pos (starEach es X.env)).any (·.1) = false) :
    PE X (.Call (.Name x p) (e :: es) [] pos) (fun σ H Q => σ[i]? = some (some (.ref C)) ∧ tMakeG C sp E t σ H Q) := by
  constructor
  rintro pins s σ H Q I ⟨hi, h⟩
  refine wpAny_Call_Name_kw (thn ((pe_var (X := X) (pos := p) (i := i) hN hv hdb hcd).run pins s σ H (fun v H1 => v = .ref C ∧ H1 = H) I ⟨.ref C, hi, rfl, rfl⟩) ?_)
  rintro u s1 ⟨v, H1, I1, r1, e1, e2⟩
  subst e1
  rw [e2] at I1
  have eu : u = Value.ref C := r1
  subst eu
  apply PySem.W.callWith_K (h₀ := X.base) I1.ok.mod.kin M.kp (thn (ha.run pos pins s1 σ H _ I1 h) ?_) he hpl
  rintro us s2 ⟨vs, H2, I2, r, q⟩
  exact ⟨I2.kIn, run_makeG M F hr hb (hx σ) I2 r q⟩
@[simp] def eNewL (i : Nat) (C : Addr) (sp : FSp) (ms : EM (List D)) : EM D := fun ρ g Q E => ρ[i]? = some (.val (.ref C)) ∧ eNew C sp ms ρ g Q E
theorem ev_makeL (hI : Ini X.prog X.w X.K X.mg X.base C k sp) (hr : RoomG (k + 1) X.A) (ha : EVs X (e :: es) ms) (hN : X.N[i]? = some x := by rfl) (hv : Vis X.env.scope x := by first | exact Or.inl rfl | exact Or.inr (Or.inl rfl) | exact Or.inr (Or.inr rfl)) (hdb : (x == ("__debug__" : Str)) = false := by decide) (hcd : (x == ("__classdict__" : Str)) = false := by decide)
    (he : starEach (e :: es) X.env = (false, eval e X.env) :: starEach es X.env := by rfl) (hpl : (backTo pos (starEach es X.env)).any (·.1) = false := by rfl) : EV X (.Call (.Name x p) (e :: es) [] pos) (eNewL i C sp ms) := by
  intro B W hB L
  obtain ⟨f, fd, ps, hF, hb, hM⟩ := hI.ex
  refine pe_mono (pe_makeL (E := WE (WXof B W)) hM hF hr hN hv hb (fun σ => passAt L σ) (ha B W hB L) hdb hcd he hpl) ?_
  rintro σ H Q ⟨F, ρ, g, QD, R, ⟨hi, w⟩, q⟩
  obtain ⟨v0, e0, r0⟩ := R.sl i _ hi
  cases r0
  refine ⟨e0, ?_⟩
  rw [← hB]
  exact make_w hB σ H Q ⟨F, ρ, g, QD, R, w, q⟩
end
end DL

set_option Elab.async false
set_option linter.all false
set_option maxRecDepth 100000
namespace DL
open PySem PySem.Spec PyProof.Rows L2
/-! ### len(o), str(o), o == x, o != x by own defs that raise nothing -/
section
variable {X : Cx} {C : Addr} {k : Nat} {e : Expr} {pos p : Pos} {ma : EM D} {sp : FSp}
/-- a def that raises nothing, wherever it runs -/
theorem run_no {pins : List (Addr × Obj)} {σ : L2.St} {H : Hp} {s : Shared} {A : Around} {Q : VK} {us : List Value} {vs : List V} {f : Addr} {fd : FuncData} {ps : List Str} {sp : Sp} {E' : Value → Shared → Prop}
    (F : FnG X.prog X.w X.K X.mg X.base (L2.CX X.prog X.w) k f fd ps sp) (hr : RoomG k A) (e0 : Env0 X.prog X.w X.K X.mg X.base A X.stack s H) (hb : Binds X.K fd ps []) (I : Inv X pins σ H s) (r : Vals vs us) (h : sp vs H Q noX) :
    wpAny (model X.prog X.w) A (call (.ref f) us) (EP X pins σ Q) E' s := by
  have le : (us ++ ([] : List Value)).length = ps.length := by rw [List.append_nil, ← r.length]; exact F.len _ _ _ _ h
  have bi := hb s us I.kIn le
  rw [List.append_nil] at bi
  refine wpAny_call (codeAny_mono (F.run A X.stack s H ⟨us, []⟩ us vs Q noX hr e0 bi r h) fun res s' hq => ?_)
  match res, hq with
  | .error e, hq => obtain ⟨_, _, _, _, _, _, _, _, _, _, _, _, z⟩ := hq; exact z.elim
  | .ok (.ret u), hq => exact I.after hq
  | .ok .next, hq => exact hq.elim
  | .ok .brk, hq => exact hq.elim
  | .ok .cont, hq => exact hq.elim
theorem len_K {prog : Program} {w : World} {A : Around} {E : Value → Shared → Prop} {s : Shared} {K : PySem.W.Frag} {x C f : Addr} {ox : Obj} {od : Option Obj} {Q : Value → Shared → Prop} (X : K.In s.heap) (I : PySem.W.InstAt s.heap x ox C od)
    (hs : PySem.W.findIn K (.ref C) "__len__" = some (some (.ref f))) (hf : PySem.W.isFn K (.ref f) = true)
    (h : wpAny (model prog w) A.in1 (call (.ref f) [.ref x]) (fun r s' => ∃ n u, r = Value.int n u ∧ (0 ≤ n ∧ n < 2 ^ 63) ∧ Q (.int n s'.toks) { s' with toks := s'.toks + 1 }) E s) : wpAny (model prog w) A (call (.builtin "len") [.ref x]) Q E s := by
  apply Calls.call_function_entry kind_len plain_len entry_len (args_len1 _)
  unfold Builtin.«len»
  apply wpAny_bind (m := oneArg "len" _)
  apply wpAny_pure
  apply wpAny_bind (m := callSpecial? (.ref x) (Str.ofString "__len__"))
  apply PySem.W.special_fn X I hs (beq_iff_eq.mp hf)
  refine wpAny_mono h ?_ fun _ _ y => y
  rintro r s' ⟨n, u, rfl, ⟨h0, h1⟩, hq⟩
  apply wpAny_bind
  apply wpAny_holding
  apply wpAny_pure
  apply wpAny_bind
  apply wpAny_letGo
  show wpAny _ _ (if n < 0 then _ else _) _ _ _
  rw [if_neg (by omega)]
  show wpAny _ _ (if n ≥ 2 ^ 63 then _ else _) _ _ _
  rw [if_neg (by omega)]
  exact wpAny_bind (wpAny_mkInt (wpAny_pure ⟨_, rfl, hq⟩))
def rLenO (C : Addr) (sp : Sp) : List V → Hp → VK → Prop := fun xs H Q => ∃ a dx vs, xs = [V.ref a] ∧ SlX.Slt H a C dx vs ∧ sp [.ref a] H (fun z H' => ∃ i : Int, z = .int i ∧ (0 ≤ i ∧ i < 2 ^ 63) ∧ Q z H') noX
theorem call_lenO {f : Addr} {fd : FuncData} {ps : List Str} {sp : Sp} (hm : Meth X.K C "__len__" f) (F : FnG X.prog X.w X.K X.mg X.base (L2.CX X.prog X.w) k f fd ps sp) (hr : RoomG (k + 1) X.A) (hb : Binds X.K fd ps []) : CallR X (.builtin "len") (rLenO C sp) := by
  intro pins s σ H xs us Q I r h
  obtain ⟨a, dx, vs, rfl, hsl, q⟩ := h
  obtain ⟨u, rfl, ru⟩ := r.one
  have eu : u = Value.ref a := ru
  subst eu
  obtain ⟨sl, od, _, J, _⟩ := SlX.slt_inst I hsl
  refine len_K I.kIn J hm.at_ hm.fn (wpAny_mono (run_no (us := [.ref a]) (vs := [.ref a]) F hr.in1 I.env0.in1 hb I (.cons rfl .nil) q) ?_ fun _ _ y => y)
  rintro w s' ⟨z, H', I', rz, i, rfl, hi, qz⟩
  obtain ⟨t, rfl⟩ := (show ∃ t, w = Value.int i t from rz)
  exact ⟨i, t, rfl, hi, .int i, H', I'.tok _, ⟨_, rfl⟩, qz⟩
def rStrO (C : Addr) (sp : Sp) : List V → Hp → VK → Prop := fun xs H Q => ∃ a dx vs, xs = [V.ref a] ∧ SlX.Slt H a C dx vs ∧ sp [.ref a] H (fun z H' => ∃ y : Str, z = .str y ∧ Q z H') noX
theorem call_strO {f : Addr} {fd : FuncData} {ps : List Str} {sp : Sp} (hm : Meth X.K C "__str__" f) (F : FnG X.prog X.w X.K X.mg X.base (L2.CX X.prog X.w) k f fd ps sp) (hr : RoomG (k + 2) X.A) (hb : Binds X.K fd ps []) : CallR X (.type "str") (rStrO C sp) := by
  intro pins s σ H xs us Q I r h
  obtain ⟨a, dx, vs, rfl, hsl, q⟩ := h
  obtain ⟨u, rfl, ru⟩ := r.one
  have eu : u = Value.ref a := ru
  subst eu
  obtain ⟨sl, od, _, J, _⟩ := SlX.slt_inst I hsl
  have hr2 : RoomG k X.A.in1.in1 := (show RoomG (k + 1) X.A.in1 from hr.in1).in1
  refine PySem.W.kso_call hr2.r.units0 I.kIn J hm.at_ hm.fn (wpAny_mono (run_no (us := [.ref a]) (vs := [.ref a]) F hr2 I.env0.in1.in1 hb I (.cons rfl .nil) q) ?_ fun _ _ y => y)
  rintro w s' ⟨z, H', I', rz, y, rfl, qz⟩
  obtain ⟨t, rfl⟩ := (show ∃ t, w = Value.str y t from rz)
  exact ⟨.str y, H', I', ⟨t, rfl⟩, qz⟩
/-- f(o), by o's own def -/
@[simp] def eOwn (C : Addr) (sp : FSp) (ok : D → Prop) (mo : EM D) : EM D := fun ρ g Q E => mo ρ g (fun d g1 => match d with
  | .obj C' fs => C' = C ∧ sp [.obj C' fs] g1 (Hide (fun r g2 => ok r ∧ Q r g2) ⟨⟩) (fun _ _ => False)
  | _ => False) E
@[simp] def isLen : D → Prop
  | .int i => 0 ≤ i ∧ i < 2 ^ 63
  | _ => False
@[simp] def isTxt : D → Prop
  | .str _ => True
  | _ => False
theorem own_w {B : Bs} {W : Wi} {ok : D → Prop} {T : V → Prop → Prop} (hok : ∀ F v d q, Rep B.K F v d → ok d → q → T v q) : ∀ σ H Q, tE B W (eOwn C sp ok ma) σ H Q → tE B W ma σ H fun x H1 => ∃ a dx vs, x = .ref a ∧ SlX.Slt H1 a C dx vs ∧ lift B.K sp [.ref a] H1 (fun z H' => T z (Q z H')) noX := by
  rintro σ H Q ⟨F, ρ, g, QD, R, w, q⟩
  refine ⟨F, ρ, g, _, R, w, ?_⟩
  intro v1 H1 F1 g1 d1 k1 R1 r1 w1
  cases d1 with
  | obj C' fs =>
    obtain ⟨hc, w1⟩ := w1
    subst hc
    obtain ⟨a, dx, xs, rfl, hs, hr1⟩ := r1.slt R1.fh
    refine ⟨a, dx, _, rfl, hs, F1, g1, [_], _, _, .cons r1 .nil, R1.enter, w1, ?_, ?_⟩
    · intro v H' F' g' d D1 r w3
      exact hok _ _ _ _ r w3.1 (q v H' F' g' d (k1.trans (Rl.ste D1)) (R1.after D1) r w3.2)
    · intro cls dx' H' F' g' x D1 xr w3
      exact w3
  | _ => exact w1.elim
theorem ev_lenO (hM : Mth X.prog X.w X.K X.mg X.base C "__len__" k sp) (hr : RoomG (k + 1) X.A) (hg : Gl X "len") (hm : X.mg "len" = none) (ha : EV X e ma)
    (he : starEach [e] X.env = (false, eval e X.env) :: starEach [] X.env := by rfl) (hpl : (backTo pos (starEach [] X.env)).any (·.1) = false := by rfl) : EV X (.Call (.Name "len" p) [e] [] pos) (eOwn C sp isLen ma) := by
  intro B W hB L
  obtain ⟨f, fd, ps, F, hb, hm2⟩ := hM.ex
  refine pe_mono (pe_callB (call_lenO hm2 F hr hb) hg hm PySem.boot_len (pa_cons (ha B W hB L) pa_nil he) (by decide) (by decide) he hpl) ?_
  intro σ H Q h
  have h2 := own_w (T := fun v q => ∃ i : Int, v = .int i ∧ (0 ≤ i ∧ i < 2 ^ 63) ∧ q) (fun F v d q r o hq => by
    cases d <;> simp at o
    exact ⟨_, r.int_inv, o, hq⟩) σ H Q h
  rw [hB] at h2
  obtain ⟨F, ρ, g, QD, R, w, q⟩ := h2
  exact ⟨F, ρ, g, QD, R, w, fun v1 H1 F1 g1 d1 k1 R1 r1 w1 => by
    obtain ⟨a, dx, vs, rfl, hs, hl⟩ := q v1 H1 F1 g1 d1 k1 R1 r1 w1
    exact ⟨a, dx, vs, rfl, hs, hl⟩⟩
theorem ev_strO (hM : Mth X.prog X.w X.K X.mg X.base C "__str__" k sp) (hr : RoomG (k + 2) X.A) (hg : Gl X "str") (hm : X.mg "str" = none) (ha : EV X e ma)
    (he : starEach [e] X.env = (false, eval e X.env) :: starEach [] X.env := by rfl) (hpl : (backTo pos (starEach [] X.env)).any (·.1) = false := by rfl) : EV X (.Call (.Name "str" p) [e] [] pos) (eOwn C sp isTxt ma) := by
  intro B W hB L
  obtain ⟨f, fd, ps, F, hb, hm2⟩ := hM.ex
  refine pe_mono (pe_callTy (call_strO hm2 F hr hb) hg hm (by decide +kernel) (pa_cons (ha B W hB L) pa_nil he) (by decide) (by decide) he hpl) ?_
  intro σ H Q h
  have h2 := own_w (T := fun v q => ∃ y : Str, v = .str y ∧ q) (fun F v d q r o hq => by
    cases d <;> simp at o
    exact ⟨_, r.str_inv, hq⟩) σ H Q h
  rw [hB] at h2
  obtain ⟨F, ρ, g, QD, R, w, q⟩ := h2
  exact ⟨F, ρ, g, QD, R, w, fun v1 H1 F1 g1 d1 k1 R1 r1 w1 => by
    obtain ⟨a, dx, vs, rfl, hs, hl⟩ := q v1 H1 F1 g1 d1 k1 R1 r1 w1
    exact ⟨a, dx, vs, rfl, hs, hl⟩⟩
end
end DL

set_option Elab.async false
set_option linter.all false
set_option maxRecDepth 100000
namespace DL
open PySem PySem.Spec PyProof.Rows L2
/-! ### o == x, o != x by an own __eq__ -/
section
variable {prog : Program} {w : World} {A : Around} {E : Value → Shared → Prop} {s : Shared} {K : PySem.W.Frag} {x C f : Addr} {ox : Obj} {od : Option Obj} {b tb : Value}
/-- what object's own __ne__ does -/
theorem objNe {Q : Fin → Shared → Prop} (hu : A.units < cLine) (X : K.In s.heap) (I : PySem.W.InstAt s.heap x ox C od) (hs : PySem.W.findIn K (.ref C) "__eq__" = some (some (.ref f))) (hf : PySem.W.isFn K (.ref f) = true)
    (h : wpAny (model prog w) A (call (.ref f) [.ref x, b]) (fun v s' => ∃ c, v = Value.bool c ∧ Q (.done (.ret (.bool (!c)))) s') E s) : wpAny (model prog w) A (Builtin.«object.__ne__» ⟨[.ref x, b], []⟩) Q E s := by
  unfold Builtin.«object.__ne__»
  have inner : wpAny (model prog w) A (callSpecialIfBound? (.ref x) "__eq__" [b]) (fun r s' => ∃ c, r = some (Value.bool c) ∧ Q (.done (.ret (.bool (!c)))) s') E s :=
    PySem.W.ifBound_K X I hs hf (wpAny_mono h (fun v s' ⟨c, e, q⟩ => ⟨c, by rw [e], q⟩) fun _ _ y => y)
  refine wpAny_bind (wpAny_pure ?_)
  refine wpAny_bind (wpAny_cRoomFor hu ?_)
  refine wpAny_bind (wpAny_mono inner ?_ fun _ _ y => y)
  rintro r s' ⟨c, rfl, q⟩
  first
  | exact wpAny_bind (wpAny_truthy_bool (wpAny_pure q))
  | exact wpAny_bind (wpAny_truthy_bool q)
theorem tryNe {Q : Option Value → Shared → Prop} (hu : A.in1.units < cLine) (X : K.In s.heap) (I : PySem.W.InstAt s.heap x ox C od) (hm : PySem.W.mroIn K C (.type "object") = some true) (hn : PySem.W.findIn K (.ref C) "__ne__" = some (some (.builtin "object.__ne__")))
    (hs : PySem.W.findIn K (.ref C) "__eq__" = some (some (.ref f))) (hf : PySem.W.isFn K (.ref f) = true)
    (h : wpAny (model prog w) A.in1 (call (.ref f) [.ref x, b]) (fun v s' => ∃ c, v = Value.bool c ∧ Q (some (.bool (!c))) s') E s) : wpAny (model prog w) A (tryCompare (.ref x) "__ne__" b) Q E s := by
  have called : wpAny (model prog w) A (call (.builtin "object.__ne__") [.ref x, b]) (fun v s' => ∃ c, v = Value.bool c ∧ Q (some (.bool c)) s') E s := by
    refine wpAny_call (codeAny_call_builtin F.cmp_object.ne.plain F.cmpEntry_ne (PySem.W.check_slot F.cmpKind_ne F.cmpSplit_ne (I.type.andThen (PySem.W.looks_mroIn X hm)) (F.cmpArgs_ne _ _) ?_))
    exact objNe hu X I hs hf (wpAny_mono h (fun v s' ⟨c, e, q⟩ => ⟨c, e, !c, rfl, q⟩) fun _ _ y => y)
  have fin : wpAny (model prog w) A (call (.builtin "object.__ne__") ([.ref x] ++ [b]) >>= fun v => pure (some v)) (fun r s' => ∃ c, r = some (Value.bool c) ∧ Q (some (.bool c)) s') E s :=
    wpAny_bind (wpAny_mono called (fun v s' ⟨c, e, q⟩ => wpAny_pure ⟨c, by rw [e], q⟩) fun _ _ y => y)
  have bound : wpAny (model prog w) A (callSpecialIfBound? (.ref x) "__ne__" [b]) (fun r s' => ∃ c, r = some (Value.bool c) ∧ Q (some (.bool c)) s') E s := by
    simp only [callSpecialIfBound?, bindSpecialIfBound?]
    apply wpAny_holding
    apply wpAny_bind
    apply wpAny_bind
    apply wpAny_bind
    apply I.type.here
    apply (PySem.W.looks_findIn X hn).here
    apply wpAny_bind
    apply wpAny_askSetting
    apply wpAny_ite
    split
    · exact wpAny_bind (wpAny_of_eq (F.cmp_object.ne.bind _) (wpAny_pure fin))
    · exact wpAny_tryCatch (wpAny_bind (wpAny_of_eq (F.cmp_object.ne.bind _) (wpAny_pure fin)))
  unfold tryCompare
  refine wpAny_bind (wpAny_mono bound ?_ fun _ _ y => y)
  rintro r s' ⟨c, rfl, q⟩
  exact wpAny_pure q
theorem ne_K {Q : Value → Shared → Prop} (hu : A.in1.units < cLine) (X : K.In s.heap) (I : PySem.W.InstAt s.heap x ox C od) (hb : PySem.W.Looks (model prog w) s.heap (typeOf b) tb) (hf1 : PySem.W.notFirst K C tb = true) (hm : PySem.W.mroIn K C (.type "object") = some true)
    (hn : PySem.W.findIn K (.ref C) "__ne__" = some (some (.builtin "object.__ne__"))) (hs : PySem.W.findIn K (.ref C) "__eq__" = some (some (.ref f))) (hf : PySem.W.isFn K (.ref f) = true)
    (h : wpAny (model prog w) A.in1 (call (.ref f) [.ref x, b]) (fun v s' => ∃ c, v = Value.bool c ∧ Q (.bool (!c)) s') E s) : wpAny (model prog w) A (richCompare .NotEq (.ref x) b) Q E s := by
  have one : wpAny (model prog w) A (tryCompare (.ref x) "__ne__" b) (fun r s' => ∃ v, r = some v ∧ (∃ c, v = Value.bool c) ∧ Q v s') E s :=
    tryNe hu X I hm hn hs hf (wpAny_mono h (fun v s' ⟨c, e, q⟩ => ⟨c, e, _, rfl, ⟨_, rfl⟩, q⟩) fun _ _ y => y)
  have hu0 : A.units < cLine := Nat.lt_of_succ_lt (show A.units + 1 < cLine from hu)
  unfold richCompare
  simp only [oneThing_ref]
  apply wpAny_holding
  apply wpAny_bind
  apply wpAny_cRoomFor hu0
  rw [cmpInfo_NotEq]
  dsimp only
  apply wpAny_bind
  apply I.type.here
  apply wpAny_bind
  apply hb.here
  have last : wpAny (model prog w) A (tryCompare (.ref x) "__ne__" b) (fun r s' => ∃ v, r = some v ∧ (∃ c, v = Value.bool c) ∧ Q v s') E s := one
  split
  · rename_i q
    have e : PySem.W.subIn K tb (.ref C) = some false := by
      rcases Bool.or_eq_true_iff.mp hf1 with e | e
      · rw [beq_iff_eq.mp e] at q; simp at q
      · exact beq_iff_eq.mp e
    apply wpAny_bind
    apply (PySem.W.looks_subIn X e).here
    simp only [Bool.false_eq_true, if_false]
    refine wpAny_bind (wpAny_mono last ?_ fun _ _ y => y)
    rintro r s' ⟨v, rfl, _, q⟩
    exact wpAny_pure q
  · apply wpAny_bind
    apply wpAny_pure
    simp only [Bool.false_eq_true, if_false]
    refine wpAny_bind (wpAny_mono last ?_ fun _ _ y => y)
    rintro r s' ⟨v, rfl, _, q⟩
    exact wpAny_pure q
end
end DL

set_option Elab.async false
set_option linter.all false
set_option maxRecDepth 100000
namespace DL
open PySem PySem.Spec PyProof.Rows L2
/-! ### == and != where an instance with its own __eq__ stands to the left -/
def TYS : List String := ["NoneType", "bool", "int", "str", "tuple", "list", "dict"]
structure EqC (K : PySem.W.Frag) (cs : List Addr) (C : Addr) : Prop where
  mro : PySem.W.mroIn K C (.type "object") = some true
  ne : PySem.W.findIn K (.ref C) "__ne__" = some (some (.builtin "object.__ne__"))
  nf : ∀ c ∈ cs, PySem.W.notFirst K C (.ref c) = true
  nt : ∀ n ∈ TYS, PySem.W.notFirst K C (.type n) = true
/-- what may stand to the right -/
@[simp] def okY (cs : List Addr) : D → Bool
  | .obj c _ => decide (c ∈ cs)
  | .non => true
  | .bl _ => true
  | .int _ => true
  | .str _ => true
  | .tup _ => true
  | .lst _ => true
  | _ => false
section
variable {X : Cx} {C : Addr} {cs : List Addr} {k : Nat} {a b : Expr} {pos : Pos} {ma mb : EM D} {sp : FSp}
theorem looks_first {pins : List (Addr × Obj)} {σ : L2.St} {H F : Hp} {s : Shared} {v : V} {u : Value} {y : D} (hc : EqC X.K cs C) (I : Inv X pins σ H s) (e : Same F H) (r : Rep X.K F v y) (ru : RelV v u) (ok : okY cs y = true) :
    ∃ tb, PySem.W.Looks (model X.prog X.w) s.heap (typeOf u) tb ∧ PySem.W.notFirst X.K C tb = true := by
  cases y with
  | non => cases r; cases ru; exact ⟨.type "NoneType", .of_pure rfl, hc.nt _ (by decide)⟩
  | bl c => cases r; cases ru; exact ⟨.type "bool", .of_pure rfl, hc.nt _ (by decide)⟩
  | int i => cases r; obtain ⟨t, rfl⟩ := ru; exact ⟨.type "int", .of_pure rfl, hc.nt _ (by decide)⟩
  | str z => cases r; obtain ⟨t, rfl⟩ := ru; exact ⟨.type "str", .of_pure rfl, hc.nt _ (by decide)⟩
  | tup ds =>
    cases r with
    | @tup ad xs _ ht hr =>
      cases ru
      obtain ⟨its, _, ⟨o, ho, hcl, _⟩, _⟩ := I.tuple (same_sqT e ht.sqT)
      refine ⟨.type "tuple", ?_, hc.nt _ (by decide)⟩
      rw [← hcl]
      exact (PySem.W.Looks.ld ho).andThen .now
  | lst ds =>
    cases r with
    | @lst ad xs _ ht hr =>
      cases ru
      obtain ⟨its, _, hl, _⟩ := I.list (e.seq ht)
      obtain ⟨o, ho, hcl, _⟩ := hl.isList
      refine ⟨.type "list", ?_, hc.nt _ (by decide)⟩
      rw [← hcl]
      exact (PySem.W.Looks.ld ho).andThen .now
  | obj c fs =>
    obtain ⟨ad, dx, xs, rfl, hs, _⟩ := r.slt e
    cases ru
    obtain ⟨sl, od, _, J, _⟩ := SlX.slt_inst I hs
    exact ⟨.ref c, J.type, hc.nf c (by simpa using ok)⟩
  | _ => simp at ok
@[simp] def eEqO (neg : Bool) (C : Addr) (cs : List Addr) (sp : FSp) (ma mb : EM D) : EM D := fun ρ g Q E => ma ρ g (fun d g1 => mb ρ g1 (fun y g2 => match d with
  | .obj C' fs => (C' = C ∧ okY cs y = true) ∧ sp [.obj C' fs, y] g2 (Hide (fun r g3 => match r with | .bl c => Q (.bl (if neg then !c else c)) g3 | _ => False) ⟨⟩) (fun _ _ => False)
  | _ => False) E) E
def rEqO (X : Cx) (C : Addr) (cs : List Addr) (neg : Bool) (sp : Sp) : R2 := fun x y H Q => ∃ (F : Hp) (a dx : Addr) (vs : List (Option V)) (dy : D), x = .ref a ∧ SlX.Slt H a C dx vs ∧ Same F H ∧ Rep X.K F y dy ∧ okY cs dy = true ∧
  sp [x, y] H (fun z H' => ∃ c : Bool, z = .bl c ∧ Q (.bl (if neg then !c else c)) H') noX
theorem op_eqO {f : Addr} {fd : FuncData} {ps : List Str} {sp : Sp} (hc : EqC X.K cs C) (hm : Meth X.K C "__eq__" f) (F : FnG X.prog X.w X.K X.mg X.base (L2.CX X.prog X.w) k f fd ps sp) (hr : RoomG (k + 1) X.A) (hb : Binds X.K fd ps []) : OpR X (compareOp .Eq) (rEqO X C cs false sp) := by
  intro pins s σ H x y v u Q I rx ry h
  obtain ⟨Fz, a, dx, vs, dy, rfl, hs, hF, hy, ok, q⟩ := h
  have ev : v = Value.ref a := rx
  subst ev
  obtain ⟨tb, h1, h2⟩ := looks_first hc I hF hy ry ok
  obtain ⟨sl, od, _, J, _⟩ := SlX.slt_inst I hs
  obtain ⟨m, hFr⟩ := I.fr
  show wpAny (model X.prog X.w) X.A (richCompare .Eq (.ref a) u) _ _ _
  refine PySem.W.cmp_K (op := .Eq) (tb := tb) hr.r.units0 hFr I.ok.mod.kin J h1 h2 hm.at_ hm.fn ?_
  refine wpAny_mono (run_no (us := [.ref a, u]) (vs := [.ref a, y]) F (hr.mono (Nat.le_succ k)) I.env0 hb I (.cons rfl (.cons ry .nil)) q) ?_ fun _ _ y => y
  rintro w s' ⟨z, H', I', rz, c, rfl, qz⟩
  have ew : w = Value.bool c := rz
  subst ew
  exact ⟨.bl c, H', I', rfl, qz⟩
theorem op_neO {f : Addr} {fd : FuncData} {ps : List Str} {sp : Sp} (hc : EqC X.K cs C) (hm : Meth X.K C "__eq__" f) (F : FnG X.prog X.w X.K X.mg X.base (L2.CX X.prog X.w) k f fd ps sp) (hr : RoomG (k + 1) X.A) (hb : Binds X.K fd ps []) : OpR X (compareOp .NotEq) (rEqO X C cs true sp) := by
  intro pins s σ H x y v u Q I rx ry h
  obtain ⟨Fz, a, dx, vs, dy, rfl, hs, hF, hy, ok, q⟩ := h
  have ev : v = Value.ref a := rx
  subst ev
  obtain ⟨tb, h1, h2⟩ := looks_first hc I hF hy ry ok
  obtain ⟨sl, od, _, J, _⟩ := SlX.slt_inst I hs
  show wpAny (model X.prog X.w) X.A (richCompare .NotEq (.ref a) u) _ _ _
  refine ne_K hr.in1.r.units0 I.kIn J h1 h2 hc.mro hc.ne hm.at_ hm.fn ?_
  refine wpAny_mono (run_no (us := [.ref a, u]) (vs := [.ref a, y]) F hr.in1 I.env0.in1 hb I (.cons rfl (.cons ry .nil)) q) ?_ fun _ _ y => y
  rintro w s' ⟨z, H', I', rz, c, rfl, qz⟩
  have ew : w = Value.bool c := rz
  subst ew
  exact ⟨c, rfl, .bl (!c), H', I', rfl, qz⟩
theorem eqO_w {B : Bs} {W : Wi} {neg : Bool} (hB : B.K = X.K) : ∀ σ H Q, tE B W (eEqO neg C cs sp ma mb) σ H Q → tOp (rEqO X C cs neg (lift B.K sp)) (tE B W ma) (tE B W mb) σ H Q := by
  rintro σ H Q ⟨F, ρ, g, QD, R, w, q⟩
  refine ⟨F, ρ, g, _, R, w, ?_⟩
  intro v1 H1 F1 g1 d1 k1 R1 r1 w1
  refine ⟨F1, ρ, g1, _, R1, w1, ?_⟩
  intro v2 H2 F2 g2 d2 k2 R2 r2 w2
  cases d1 with
  | obj C' fs =>
    obtain ⟨⟨hc, ok⟩, w2⟩ := w2
    subst hc
    have r1' := r1.mono k2.ff
    obtain ⟨a, dx, xs, rfl, hs, hr1⟩ := r1'.slt R2.fh
    refine ⟨F2, a, dx, _, d2, rfl, hs, R2.fh, by rw [← hB]; exact r2, ok, F2, g2, [_, d2], _, _, .cons r1' (.cons r2 .nil), R2.enter, w2, ?_, ?_⟩
    · intro v H' F' g' d D1 r w3
      cases d with
      | bl c => exact ⟨c, r.bl_inv, q _ H' F' g' _ ((k1.trans k2).trans (Rl.ste D1)) (R2.after D1) (.bl _) w3⟩
      | _ => exact (show False from w3).elim
    · intro cls dx' H' F' g' x D1 xr w3
      exact w3
  | _ => exact w2.elim
theorem ev_eqO (hM : Mth X.prog X.w X.K X.mg X.base C "__eq__" k sp) (hc : EqC X.K cs C) (hr : RoomG (k + 1) X.A) (ha : EV X a ma) (hb : EV X b mb) (hm : behindInMarks .Eq b = false := by first | exact nomark _ | rfl) : EV X (.Compare a [.Eq] [b] pos) (eEqO false C cs sp ma mb) := by
  intro B W hB L
  obtain ⟨f, fd, ps, F, hbn, hme⟩ := hM.ex
  refine pe_mono (pe_cmpR (op_eqO hc hme F hr hbn) (ha B W hB L) (hb B W hB L) hm) ?_
  intro σ H Q h
  have := eqO_w hB σ H Q h
  rw [hB] at this
  exact this
theorem ev_neO (hM : Mth X.prog X.w X.K X.mg X.base C "__eq__" k sp) (hc : EqC X.K cs C) (hr : RoomG (k + 1) X.A) (ha : EV X a ma) (hb : EV X b mb) (hm : behindInMarks .NotEq b = false := by first | exact nomark _ | rfl) : EV X (.Compare a [.NotEq] [b] pos) (eEqO true C cs sp ma mb) := by
  intro B W hB L
  obtain ⟨f, fd, ps, F, hbn, hme⟩ := hM.ex
  refine pe_mono (pe_cmpR (op_neO hc hme F hr hbn) (ha B W hB L) (hb B W hB L) hm) ?_
  intro σ H Q h
  have := eqO_w hB σ H Q h
  rw [hB] at this
  exact this
end
end DL

set_option Elab.async false
set_option linter.all false
set_option maxRecDepth 100000
namespace DL
open PySem PySem.Spec PyProof.Rows L2
/-! ### f'..' -/
@[simp] def eFmt (m : EM D) : EM D := fun ρ g Q E => m ρ g (fun d g1 => match d with
  | .str z => z.length ≤ sizeLine ∧ Q (.str z) g1
  | .int i => i.natAbs.log2 < 1920 ∧ Q (.str (toString i)) g1
  | _ => False) E
@[simp] def jsD : List (EM D) → Str → EM D
  | [], acc => fun _ g Q _ => Q (.str acc) g
  | m :: ms, acc => fun ρ g Q E => m ρ g (fun d g1 => match d with | .str y => (acc ++ y).length ≤ sizeLine ∧ jsD ms (acc ++ y) ρ g1 Q E | _ => False) E
def EJ (X : Cx) (es : List Expr) (ms : List (EM D)) : Prop := ∀ B W, B.K = X.K → Lk X B W → PJ X es (ms.map (tE B W))
section
variable {X : Cx} {e v1 v2 : Expr} {es rest : List Expr} {m : EM D} {ms : List (EM D)} {pos : Pos}
theorem ev_fmt (h : EV X e m) : EV X (.FormattedValue e (-1) none pos) (eFmt m) := by
  intro B W hB L
  refine pe_mono (pe_fmt (h B W hB L)) ?_
  rintro σ H Q ⟨F, ρ, g, QD, R, w, q⟩
  refine ⟨F, ρ, g, _, R, w, ?_⟩
  intro v H1 F1 g1 d k1 R1 r1 w1
  cases d with
  | str z => exact .inl ⟨z, r1.str_inv, w1.1, q _ H1 F1 g1 _ k1 R1 (.str z) w1.2⟩
  | int i => exact .inr ⟨i, r1.int_inv, w1.1, q _ H1 F1 g1 _ k1 R1 (.str _) w1.2⟩
  | _ => exact w1.elim
theorem ej_nil : EJ X [] [] := fun _ _ _ _ => .nil
theorem ej_cons (h : EV X e m) (r : EJ X es ms) : EJ X (e :: es) (m :: ms) := fun B W hB L => .cons (h B W hB L) (r B W hB L)
theorem js_w {B : Bs} {W : Wi} {σ : L2.St} {Q : VK} : ∀ (ms : List (EM D)) (acc : Str) (H : Hp), tE B W (jsD ms acc) σ H Q → tJs (ms.map (tE B W)) acc σ H fun out H1 => Q (.str out) H1
  | [], acc, H, ⟨F, ρ, g, QD, R, w, q⟩ => q _ H F g _ Ste.refl R (.str acc) w
  | m :: ms, acc, H, ⟨F, ρ, g, QD, R, w, q⟩ => by
    refine ⟨F, ρ, g, _, R, w, ?_⟩
    intro v H1 F1 g1 d k1 R1 r1 w1
    cases d with
    | str y => exact ⟨y, r1.str_inv, w1.1, js_w ms _ H1 ⟨F1, ρ, g1, QD, R1, w1.2, fun v H' F' g' d k R' r w' => q v H' F' g' d (k1.trans k) R' r w'⟩⟩
    | _ => exact w1.elim
theorem ev_joined (h : EJ X (v1 :: v2 :: rest) ms) : EV X (.JoinedStr (v1 :: v2 :: rest) pos) (jsD ms Str.empty) := by
  intro B W hB L
  exact pe_mono (pe_joined (h B W hB L)) fun σ H Q h => js_w ms _ H h
theorem ev_joined1 (h : EV X e m) : EV X (.JoinedStr [e] pos) m := fun B W hB L => pe_joined1 (h B W hB L)
end
/-! ### str(int) -/
def strI : List D → Option D
  | [.int i] => if i.natAbs.log2 < 1920 then some (.str (toString i)) else none
  | _ => none
theorem cs_strI {X : Cx} : CS X (.type "str") strI := by
  refine cs_of call_str_int fun F H xs ds dz Q hF hx hf q => ?_
  unfold strI at hf
  split at hf
  · split at hf
    · rename_i i hz
      cases hf
      obtain ⟨v, rfl, r⟩ := hx.one_inv
      exact ⟨i, by rw [r.int_inv], hz, q _ F H (Gro.refl hF) (.str _)⟩
    · cases hf
  · cases hf
end DL
namespace DL
open PySem PySem.Spec PyProof.Rows L2
/-! ### the facts of a class, from single ones -/
theorem kit_own {K : PySem.W.Frag} {c C : Addr} {b : Bool} (h0 : PySem.W.isClsIn K C = true) (h1 : PySem.W.typeIn K (.ref C) = some (.type "type")) (h2 : PySem.W.subIn K (.ref c) (.ref C) = some b) (h3 : decide (c = C) = b) : PySem.W.kitOne K (.ref c) (.ref C) = some (decide (c = C)) := by
  unfold PySem.W.kitOne
  by_cases h : c = C
  · subst h
    rw [if_pos (by simp), decide_eq_true rfl]
  · have e : ¬ ((Value.ref c == Value.ref C) = true) := by simpa using h
    rw [if_neg e]
    unfold PySem.W.kitCls
    have h0' : (PySem.W.clsIn K C).isSome = true := h0
    show (if ((PySem.W.clsIn K C).isSome && PySem.W.typeIn K (.ref C) == some (.type "type")) = true then _ else _) = _
    rw [if_pos (by rw [h0', h1]; rfl), h2, h3]
theorem sub_base {K : PySem.W.Frag} {C : Addr} : ∀ n ∈ TYS, PySem.W.subIn K (.type n) (.ref C) = some false := by
  have go : ∀ (n : String) (l : List String), PySem.fastBuiltinMro n = some (l.map Value.type) → PySem.W.subIn K (.type n) (.ref C) = some false := by
    intro n l e
    show (PySem.fastBuiltinMro n).map (·.contains (.ref C)) = some false
    rw [e]
    simp
  intro n hn
  simp only [TYS, List.mem_cons, List.not_mem_nil, or_false] at hn
  rcases hn with rfl | rfl | rfl | rfl | rfl | rfl | rfl
  · exact go _ ["NoneType", "object"] (by decide +kernel)
  · exact go _ ["bool", "int", "object"] (by decide +kernel)
  · exact go _ ["int", "object"] (by decide +kernel)
  · exact go _ ["str", "object"] (by decide +kernel)
  · exact go _ ["tuple", "object"] (by decide +kernel)
  · exact go _ ["list", "object"] (by decide +kernel)
  · exact go _ ["dict", "object"] (by decide +kernel)
theorem kit_base {K : PySem.W.Frag} {C : Addr} (h0 : PySem.W.isClsIn K C = true) (h1 : PySem.W.typeIn K (.ref C) = some (.type "type")) : ∀ n ∈ TYS, PySem.W.kitOne K (.type n) (.ref C) = some false := by
  intro n hn
  unfold PySem.W.kitOne
  rw [if_neg (by simp)]
  unfold PySem.W.kitCls
  have h0' : (PySem.W.clsIn K C).isSome = true := h0
  show (if ((PySem.W.clsIn K C).isSome && PySem.W.typeIn K (.ref C) == some (.type "type")) = true then _ else _) = _
  rw [if_pos (by rw [h0', h1]; rfl), sub_base n hn]
theorem nf_base {K : PySem.W.Frag} {C : Addr} : ∀ n ∈ TYS, PySem.W.notFirst K C (.type n) = true := by
  intro n hn
  unfold PySem.W.notFirst
  rw [sub_base n hn]
  simp
end DL

set_option Elab.async false
set_option linter.all false
set_option maxRecDepth 100000
namespace DL
open PySem PySem.Spec PyProof.Rows L2
/-! ### {**d, k: v} -/
section
variable {prog : Program} {w : World} {A : Around} {E : Value → Shared → Prop} {s : Shared}
theorem arr_loop {es : Array DictEntry} {f : DictEntry → PUnit → Sem (ForInStep PUnit)} {Q : PUnit → Shared → Prop} (hf : ∀ e ∈ es.toList, f e PUnit.unit = pure (.yield PUnit.unit)) (h : Q PUnit.unit s) :
    wpAny (model prog w) A (forIn es PUnit.unit f) Q E s := by
  rw [← Array.forIn_toList]
  generalize es.toList = l at hf
  induction l with
  | nil => exact wpAny_pure h
  | cons e l ih =>
    rw [List.forIn_cons, hf e (List.mem_cons_self ..), pure_bind]
    exact ih fun x hx => hf x (List.mem_cons_of_mem _ hx)
theorem put_pairs {d : Addr} {kvs : List (Key × Value)} {k : Key} {key v : Value} {Q : Unit → Shared → Prop} (hkey : (mixKind prog w).is k key = true) (hm : s.heap.DictOf (mixKind prog w) d kvs)
    (hQ : ∀ h', h'.DictOf (mixKind prog w) d (stored kvs k v) → Heap.SameBut d s.heap h' → Q () { s with heap := h' })
    (hsz : kvs.length ≤ sizeLine) :
    wpAny (model prog w) A (dictPut d ((mixKind prog w).hash k) key v) Q E s := by
  obtain ⟨o, es, ep, ho, hc, hd, hk, hp, hn⟩ := hm
  have hes : es.size ≤ sizeLine := by have e1 := hp.length; have e2 : es.toList.length = es.size := by simp
                                      omega
  unfold dictPut
  refine wpAny_bind (wpAny_dictFind_of hkey ho hd hk ?_)
  have hidx : (es.findIdx? fun e => (mixKind prog w).is k e.key) = kvs.findIdx? fun kv => decide (kv.1 = k) := by
    rw [← hp.findIdx k]; obtain ⟨l⟩ := es; simp
  cases hi : es.findIdx? fun e => (mixKind prog w).is k e.key with
  | some i =>
    refine wpAny_updateDict ho hd (hQ _ ⟨_, _, ep, Heap.get?_update_self _ ho (Obj.isFreed_of_dict (Obj.data_mapDict hd _)),
      hc.mapDict _, Obj.data_mapDict hd _, hk.modify _ _, ?_, ?_⟩ (Heap.SameBut.update ..))
    · rw [stored, if_pos (any_of_findIdx_some (hidx ▸ hi))]
      have hl : (es.toList.findIdx? fun e => (mixKind prog w).is k e.key) = some i := by rw [← hi]; obtain ⟨l⟩ := es; simp
      have := hp.modify hn hl v
      obtain ⟨l⟩ := es
      simpa using this
    · rw [stored, if_pos (any_of_findIdx_some (hidx ▸ hi)), keys_map_store]; exact hn
  | none =>
    have hnot : k ∉ kvs.map (·.1) := not_mem_of_findIdx_none (hidx ▸ hi)
    have hany : ¬ (kvs.any fun kv => decide (kv.1 = k)) = true := by
      rw [List.any_eq_true]; rintro ⟨kv, hkv, he⟩
      exact hnot (List.mem_map.mpr ⟨kv, hkv, of_decide_eq_true he⟩)
    refine wpAny_updateDictKeys (hz := hes) ho hd (hQ _ ⟨_, _, ep + 1, Heap.get?_update_self _ ho (Obj.isFreed_of_dict (Obj.data_mapDictKeys hd _)),
      hc.mapDictKeys _, Obj.data_mapDictKeys hd _, hk.push hkey _, ?_, ?_⟩ (Heap.SameBut.update ..))
    · rw [stored, if_neg hany]
      have := hp.append hkey ((mixKind prog w).hash k) v
      obtain ⟨l⟩ := es
      simpa using this
    · rw [stored, if_neg hany, List.map_append, List.nodup_append]
      refine ⟨hn, by simp, ?_⟩
      intro a ha b hb
      simp only [List.map_cons, List.map_nil, List.mem_singleton] at hb
      subst hb
      exact fun e => hnot (e ▸ ha)
theorem merge_map {d o : Addr} {kvs more : List (Key × Value)} {Q : Unit → Shared → Prop} (hdo : d ≠ o) (hoS : (o == sysModules) = false)
    (hd : s.heap.DictOf (mixKind prog w) d kvs) (ho : s.heap.DictOf (mixKind prog w) o more)
    (hQ : ∀ h', h'.DictOf (mixKind prog w) d (merged kvs more) → h'.DictOf (mixKind prog w) o more → Heap.SameBut d s.heap h' → Q () { s with heap := h' })
    (hsz : kvs.length + more.length ≤ sizeLine) :
    wpAny (model prog w) A (mergeMapping d (.ref o) false) Q E s := by
  obtain ⟨od, esd, epd, hod, hcd, hdd, hkd, hpd, hnd⟩ := id hd
  obtain ⟨oo, eso, epo, hoo, hco, hdo', hko, hpo, hno⟩ := id ho
  have hlen : more.length = eso.size := by rw [← hpo.length]; simp
  unfold mergeMapping
  refine wpAny_bind (wpAny_isInstance ho.typeIs isSubtype_dict_dict ?_)
  simp only [if_true]
  refine wpAny_bind (wpAny_specialOf ho.typeIs F.slot_dict_iter.lookup ?_)
  simp only [beq_self_eq_true]
  refine wpAny_bind (wpAny_pure ?_)
  dsimp only
  rw [if_neg (by rw [hoS]; exact Bool.false_ne_true)]
  simp only [Bool.false_eq_true, if_false]
  have loop : wpAny (model prog w) A (do
      let a ← dictEntries o
      let epoch ← dictEpoch o
      forIn (List.range a.size) PUnit.unit fun i (_ : PUnit) => (do
          let l' ← dictEntries o
          match l'[i]? with
            | some e => do
              holding [e.key, e.val] (dictPut d e.hash e.key e.val)
              let ep' ← dictEpoch o
              if (ep' != epoch) = true then do
                  (unsupported "dict.changed-during-merge" : Sem PUnit)
                  pure (ForInStep.yield PUnit.unit)
                else pure (ForInStep.yield PUnit.unit)
            | _ => do
              (unsupported "dict.changed-during-merge" : Sem PUnit)
              pure (ForInStep.yield PUnit.unit) : Sem (ForInStep PUnit))
      pure ()) Q E s := by
    refine wpAny_bind (wpAny_dictEntries hoo hdo' ?_)
    refine wpAny_bind (wpAny_dictEpoch hoo hdo' ?_)
    refine wpAny_bind ?_
    rw [List.range_eq_range']
    refine wpAny_forIn_list _
      (fun rest _ s' => ∃ h' i, s' = { s with heap := h' } ∧ rest = List.range' i (eso.size - i) ∧ i ≤ eso.size ∧ h'.DictOf (mixKind prog w) d (merged kvs (more.take i)) ∧ h'.get? o = some oo ∧ Heap.SameBut d s.heap h')
      _ ?_ ?_ _ _ ⟨s.heap, 0, rfl, by simp, Nat.zero_le _, by simpa [merged] using hd, hoo, Heap.SameBut.refl _ _⟩
    · rintro x rest b s' ⟨h', i, rfl, hr, hi, hd', hoo', hs'⟩
      have hlt : i < eso.size := by
        rcases Nat.lt_or_ge i eso.size with h | h
        · exact h
        · rw [Nat.sub_eq_zero_of_le h] at hr; simp at hr
      obtain ⟨rfl, hrest⟩ : x = i ∧ rest = List.range' (i + 1) (eso.size - (i + 1)) := by
        have e : eso.size - i = (eso.size - (i + 1)) + 1 := by omega
        rw [e, List.range'_succ] at hr
        injection hr with h1 h2
        exact ⟨h1, h2⟩
      refine wpAny_bind (wpAny_dictEntries hoo' hdo' ?_)
      rw [Array.getElem?_eq_getElem hlt]
      obtain ⟨kv, hkv⟩ : ∃ kv, more[x]? = some kv := ⟨more[x]'(by rw [hlen]; exact hlt), List.getElem?_eq_getElem _⟩
      obtain ⟨k, v⟩ := kv
      obtain ⟨hkey, hval⟩ := hpo.get? (e := eso[x]) (by simp [hlt]) hkv
      obtain ⟨k', hkey', hhash⟩ := hko eso[x] (Array.getElem_mem hlt)
      obtain rfl : k' = k := (mixKind prog w).inj _ _ _ hkey' hkey
      show wpAny _ _ (holding [eso[x].key, eso[x].val] (dictPut d eso[x].hash eso[x].key eso[x].val) >>= _) _ _ _
      rw [hhash, hval]
      have hmx : (merged kvs (more.take x)).length ≤ sizeLine := by
        have e1 := merged_length_le kvs (more.take x)
        have e2 : (more.take x).length ≤ more.length := by rw [List.length_take]; omega
        omega
      refine wpAny_bind (wpAny_holding (put_pairs (hsz := hmx) hkey hd' fun h'' hd'' hs'' => ?_))
      have hoo'' : h''.get? o = some oo := (hs''.2 o (Ne.symm hdo)).trans hoo'
      refine wpAny_bind (wpAny_dictEpoch hoo'' hdo' ?_)
      rw [if_neg (by simp)]
      exact wpAny_pure ⟨h'', x + 1, rfl, hrest, hlt, by rw [merged_take_succ kvs more x (k', v) hkv]; exact hd'', hoo'', hs'.trans hs''⟩
    · rintro b s' ⟨h', i, rfl, hr, hi, hd', hoo', hs'⟩
      have hin : i = eso.size := by
        rcases Nat.lt_or_ge i eso.size with h | h
        · have e : eso.size - i = (eso.size - (i + 1)) + 1 := by omega
          rw [e, List.range'_succ] at hr; exact nomatch hr
        · exact Nat.le_antisymm hi h
      refine wpAny_pure (hQ h' ?_ ⟨oo, eso, epo, hoo', hco, hdo', hko, hpo, hno⟩ hs')
      rw [hin, ← hlen, List.take_length] at hd'; exact hd'
  refine wpAny_bind (wpAny_dictEntries hod hdd ?_)
  split
  · refine wpAny_bind (wpAny_dictEntries hoo hdo' ?_)
    refine wpAny_bind (arr_loop (fun e he => ?_) loop)
    obtain ⟨k', hkey', _⟩ := hko e (by simpa using he)
    rcases keyIs_shape hkey' with ⟨i, t, _, ek⟩ | ⟨i, t, _, ek⟩
    · simp only [ek]
    · simp only [ek]
  · exact loop
end
theorem gather_of {main : Option Addr} (f : (Option (Sem Value) × Sem Value) → (Option Addr × List (Sem Value × Sem Value)) → Sem (ForInStep (Option Addr × List (Sem Value × Sem Value))))
    (hf : ∀ (p : Sem Value × Sem Value) (run : List (Sem Value × Sem Value)), run.length + 1 < 17 → f (some p.1, p.2) (main, run) = pure (.yield (main, run ++ [p]))) :
    ∀ (items run : List (Sem Value × Sem Value)), run.length + items.length < 17 → forIn (items.map fun p => (some p.1, p.2)) (main, run) f = pure (main, run ++ items)
  | [], run, _ => by simp
  | p :: rest, run, h => by
    rw [List.map_cons, List.forIn_cons, hf p run (by simp at h; omega), pure_bind]
    have := gather_of f hf rest (run ++ [p]) (by simp at h ⊢; omega)
    simpa using this
section
variable {prog : Program} {w : World} {A : Around} {E : Value → Shared → Prop} {s : Shared}
theorem dispS_wp {ta : Sem Value} {pairs : List (Sem Value × Sem Value)} {Q : Value → Shared → Prop} (h0 : pairs ≠ []) (hlen : pairs.length ≤ 15)
    (h : wpAny (model prog w) A ta (fun m s1 => ∃ o more, m = .ref o ∧ s.heap.objs.size ≠ o ∧ (o == sysModules) = false ∧ s1.heap.DictOf (mixKind prog w) s.heap.objs.size [] ∧ s1.heap.DictOf (mixKind prog w) o more ∧ more.length + 15 ≤ sizeLine ∧
      ∀ h2, h2.DictOf (mixKind prog w) s.heap.objs.size (merged [] more) → Heap.SameBut s.heap.objs.size s1.heap h2 →
        wpAny (model prog w) A (evalPairs pairs) (fun vs s3 => ∃ kvs, Carries (mixKind prog w) vs kvs ∧ kvs.length ≤ 15 ∧ s3.heap.DictOf (mixKind prog w) h2.objs.size [] ∧
          ∀ h4, h4.DictOf (mixKind prog w) h2.objs.size (merged [] kvs) → Heap.SameBut h2.objs.size s3.heap h4 → ∃ base, s.heap.objs.size ≠ h2.objs.size ∧ (h2.objs.size == sysModules) = false ∧ h4.DictOf (mixKind prog w) s.heap.objs.size base ∧ base.length + 15 ≤ sizeLine ∧
            ∀ h5, h5.DictOf (mixKind prog w) s.heap.objs.size (merged base (merged [] kvs)) → Heap.SameBut s.heap.objs.size h4 h5 → Q (.ref s.heap.objs.size) { s3 with heap := h5, toks := s3.toks + vs.length }) E
          { s1 with heap := h2.push { cls := .type "dict", data := .dict #[] } }) E { s with heap := s.heap.push { cls := .type "dict", data := .dict #[] } }) :
    wpAny (model prog w) A (dictDisplay ((none, ta) :: pairs.map fun p => (some p.1, p.2))) Q E s := by
  unfold dictDisplay
  dsimp only
  rw [List.forIn_cons]
  simp only [List.isEmpty_nil, if_true, pure_bind]
  refine wpAny_bind (wpAny_bind (wpAny_bind (wpAny_alloc ?_)))
  refine wpAny_bind (wpAny_holding (wpAny_mono h (fun m s1 h1 => ?_) fun _ _ e => e))
  obtain ⟨o, more, rfl, hdo, hoS, hd, ho, hsz, q⟩ := h1
  refine wpAny_bind (wpAny_onRaise (wpAny_tryCatch (wpAny_onRaise (wpAny_holding (merge_map hdo hoS hd ho (fun h2 hd2 ho2 hs2 => ?_) (by simp; omega))))))
  refine wpAny_pure ?_
  dsimp only
  rw [gather_of (main := some s.heap.objs.size) _ (fun p run hl => by
    have hne : ((run ++ [(p.1, p.2)]).length == 17) = false := by simp; omega
    simp only [hne, Bool.false_eq_true, if_false]) pairs [] (by simp; omega)]
  refine wpAny_pure ?_
  have hne : pairs.isEmpty = false := by cases pairs with | nil => exact absurd rfl h0 | cons _ _ => rfl
  simp only [List.nil_append, hne, Bool.false_eq_true, if_false]
  refine wpAny_bind (wpAny_bind (wpAny_holding (wpAny_subDict (knd := mixKind prog w) hlen (wpAny_mono (q h2 hd2 hs2) (fun vs s3 h3 => ?_) fun _ _ e => e))))
  obtain ⟨kvs, hc, hk, he, q3⟩ := h3
  refine ⟨kvs, hc, he, fun h4 hd4 hs4 => ?_⟩
  obtain ⟨base, hds, hS, hb, hbl, q4⟩ := q3 h4 hd4 hs4
  refine wpAny_bind (wpAny_onRaise (wpAny_holding (merge_map hds hS hb hd4 (fun h5 hd5 ho5 hs5 => ?_) (by have := merged_length_le ([] : List (Key × Value)) kvs; simp at this; omega))))
  refine wpAny_pure (wpAny_pure ?_)
  exact q4 h5 hd5 hs5
end
section
variable {X : Cx} {a : Expr} {pos : Pos} {ks : List (Option Expr)} {vs : List Expr} {ta : TE} {trs : List (TE × TE)}
def tDispS (ta : TE) (trs : List (TE × TE)) : TE := fun σ H Q => ∀ p, H p = none → ta σ (upd H p (.dK [])) fun x H2 => ∃ o od more, x = .ref o ∧ H2 p = some (.dK []) ∧ H2 o = some (.frz od (.dK more)) ∧ more.length + 15 ≤ sizeLine ∧
  ∀ q, (upd H2 p (.dK (mergeK [] more))) q = none → tPairs trs σ (upd (upd H2 p (.dK (mergeK [] more))) q (.dK [])) fun ps H4 => ∃ kvs : List (Key × V), ps = kvs.map (fun kv => (kV kv.1, kv.2)) ∧ kvs.length ≤ 15 ∧ H4 p = some (.dK (mergeK [] more)) ∧ H4 q = some (.dK []) ∧
    Q (.ref p) (upd (upd H4 q (.dK (mergeK [] kvs))) p (.dK (mergeK (mergeK [] more) (mergeK [] kvs))))
theorem pe_dispS (ha : PE X a ta) (hps : PPs X pos ks vs trs) (hall : ks.all (·.isSome) = true) (hl : ks.length = vs.length) (h0 : ks ≠ []) (h15 : ks.length ≤ 15) : PE X (.Dict (none :: ks) (a :: vs) pos) (tDispS ta trs) := by
  refine ⟨fun pins s σ H Q I q => ?_⟩
  have hn := I.hok.fresh (Nat.le_refl s.heap.objs.size)
  have I1 := I.laid (a := s.heap.objs.size) (o := .dK []) (h' := s.heap.push { cls := .type "dict", data := .dict #[] }) (t' := s.toks) (fun _ _ q => Heap.get?_push_of_some _ q) (Nat.le_refl _) (dk_empty s.heap I.big)
  rw [arm_eval_Dict]
  refine wpAny_bind (wpAny_standAt ?_)
  have hz : (evalEachOpt (none :: ks) X.env).zip ((evalEach (a :: vs) X.env).map fun v => do let x ← v; standAt pos; pure x) = (none, (do let x ← eval a X.env; standAt pos; pure x)) :: (pairTrees ks vs X.env pos).map fun p => (some p.1, p.2) := by
    rw [← zip_pairTrees ks vs X.env pos hall hl]; rfl
  rw [hz]
  have hpl := pairTrees_length ks vs X.env pos hall hl
  refine dispS_wp (fun z => h0 (List.length_eq_zero_iff.mp (by rw [← hpl, z]; rfl))) (by rw [hpl]; exact h15) (wpAny_bind (thn (ha.run pins _ σ _ _ I1 (q _ hn)) fun u s2 ⟨x, H2, I2, rx, o, od, more, ex, hp, ho, lm, q2⟩ => wpAny_bind (wpAny_standAt (wpAny_pure ?_))))
  subst ex
  obtain rfl : u = Value.ref o := rx
  obtain ⟨_, hd, vs0, r0, dd⟩ := dk_of I2.hok hp
  cases r0
  obtain ⟨_, hs0, ws, kv, hdo⟩ := dk_rd I2.hok (.inr ⟨od, ho⟩)
  have lk : more.length = ws.length := Paired.length kv
  refine ⟨o, ws, rfl, fun z => by rw [z, ho] at hp; (injection hp with hp; cases hp), hs0, dd, hdo, by omega, fun h2 hd2 hs2 => ?_⟩
  have lm1 : (mergeK [] more).length ≤ more.length := by simpa using length_mergeK more []
  have he2 : ∃ q, h2.get? s.heap.objs.size = some q := let ⟨q, _, _, hq, _⟩ := hd2; ⟨q, hq⟩
  have I3 := d_write (t' := s2.toks) I2 (by rw [hp]; exact True.intro) hs2 he2 (dk_new (by omega) hd (kv.merge .nil) hd2)
  have hn3 := I3.hok.fresh (Nat.le_refl h2.objs.size)
  have I4 := I3.laid (a := h2.objs.size) (o := .dK []) (h' := h2.push { cls := .type "dict", data := .dict #[] }) (t' := s2.toks) (fun _ _ q => Heap.get?_push_of_some _ q) (Nat.le_refl _) (dk_empty h2 I3.big)
  refine thn (hps.run pins _ σ _ _ I4 (q2 _ hn3)) fun us s5 ⟨ps, H4, I5, rel, kvs, ep, lk4, e1, e2, q4⟩ => ?_
  subst ep
  obtain ⟨rs, c, rk⟩ := carries_of (P := X.prog) (w := X.w) rel
  obtain ⟨_, hd5, vs5, r5, dd5⟩ := dk_of I5.hok e2
  cases r5
  have lrs : kvs.length = rs.length := Paired.length rk
  refine ⟨rs, c, by omega, dd5, fun h4 hd4 hs4 => ?_⟩
  have npq : s.heap.objs.size ≠ h2.objs.size := fun z => by rw [← z, upd_same] at hn3; cases hn3
  have lm2 : (mergeK [] kvs).length ≤ kvs.length := by simpa using length_mergeK kvs []
  have he4 : ∃ q, h4.get? h2.objs.size = some q := let ⟨q, _, _, hq, _⟩ := hd4; ⟨q, hq⟩
  have I6 := d_write (t' := s5.toks + us.length) I5 (by rw [e2]; exact True.intro) hs4 he4 (dk_new (by omega) hd5 (rk.merge .nil) hd4)
  have e6 : (upd H4 h2.objs.size (.dK (mergeK [] kvs))) s.heap.objs.size = some (.dK (mergeK [] more)) := by rw [upd_ne npq]; exact e1
  obtain ⟨_, hd6, vs6, kv6, dd6⟩ := dk_of I6.hok e6
  have l6 : (mergeK [] more).length = vs6.length := Paired.length kv6
  refine ⟨vs6, npq, hd5, dd6, by omega, fun h5 hdd5 hs5 => ?_⟩
  have l7 := length_mergeK (mergeK [] kvs) (mergeK [] more)
  have he5 : ∃ q, h5.get? s.heap.objs.size = some q := let ⟨q, _, _, hq, _⟩ := hdd5; ⟨q, hq⟩
  have I7 := d_write (t' := s5.toks + us.length) I6 (by rw [e6]; exact True.intro) hs5 he5 (dk_new (by omega) hd6 ((rk.merge .nil).merge kv6) hdd5)
  exact ⟨.ref s.heap.objs.size, _, I7, rfl, q4⟩
end
theorem Rl.wr0 {B : Bs} {F : Hp} {ρ : Rho} {g : G} {σ : L2.St} {H : Hp} {p : Addr} {o : HO} (R : Rl B F ρ g σ H) (hf : F p = none) (hg : g p = none) (h0 : B.H0 p = none)
    (hs : ∀ (i : Nat) (es : List D), ρ[i]? = some (.acc es) → σ[i]? ≠ some (some (.ref p))) : Rl B F ρ g σ (upd H p o) := by
  refine ⟨fun b u e => ?_, R.f0, fun b u e => R.fn b u e, fun b u e => ?_, fun b u e n => ?_, fun b u e => ?_, fun i s e => ?_, R.dj, R.ln⟩
  · rw [upd_ne (ne_of_none e hf)]; exact R.fh _ _ e
  · obtain ⟨u', e'⟩ := R.dm b u e
    by_cases hb : b = p
    · subst hb; exact ⟨_, upd_same⟩
    · exact ⟨u', by rw [upd_ne hb]; exact e'⟩
  · have hb : b ≠ p := fun z => by subst z; rw [h0] at e; cases e
    rw [upd_ne hb]; exact R.fr b u e n
  · have hb : b ≠ p := fun z => by subst z; rw [hg] at e; cases e
    obtain ⟨a1, a2, a3⟩ := R.gg b u e
    refine ⟨a1.mono (fun _ _ _ r => r) (fun b w gb _ z => ?_) (fun _ _ q => q) (fun _ _ z => z) e, a2, a3⟩
    rw [upd_ne (fun y => by subst y; rw [hg] at gb; cases gb)]
    exact z
  · have := R.sl i s e
    cases s with
    | no => trivial
    | val d => exact this
    | acc ds =>
      obtain ⟨a, xs, e1, h1, h2, h3, h4, h5⟩ := this
      have ha : a ≠ p := fun z => by subst z; exact hs i ds e e1
      exact ⟨a, xs, e1, by rw [upd_ne ha]; exact h1, h2, h3, h4, h5⟩
section
variable {X : Cx} {a : Expr} {pos : Pos} {ks : List (Option Expr)} {vs : List Expr} {ma : EM D} {ms : EM (List (D × D))}
@[simp] def eDispS (ma : EM D) (ms : EM (List (D × D))) : EM D := fun ρ g Q E => ma ρ g (fun d g1 => match d with
  | .dic ks ds => ks.length + 15 ≤ sizeLine ∧ ms ρ g1 (fun ps g2 => match keyed ps with | some kds => kds.length ≤ 15 ∧ Q (mkDic (mergeD (mergeD [] (ks.zip ds)) (mergeD [] kds))) g2 | none => False) E
  | _ => False) E
theorem ev_dispS (ha : EV X a ma) (h : EPr X pos ks vs ms) (hall : ks.all (·.isSome) = true := by rfl) (hl : ks.length = vs.length := by rfl) (h0 : ks ≠ [] := by simp) (h15 : ks.length ≤ 15 := by decide) :
    EV X (.Dict (none :: ks) (a :: vs) pos) (eDispS ma ms) := by
  intro B W hB L
  obtain ⟨trs, hp, ht⟩ := h B W hB L
  refine ⟨fun pins s σ H Q I w => ?_⟩
  obtain ⟨F, ρ, g, QD, R, w, q⟩ := w
  refine thn ((pe_dispS (ha B W hB L) hp hall hl h0 h15).run pins s σ H (fun x H1 => ∃ p m, x = .ref p ∧ H1 p = some (.dK m) ∧ ∀ od, Q (.ref p) (upd H1 p (.frz od (.dK m)))) I ?_) ?_
  · intro p hp
    have G0 := Gro.lay0 (o := .dK []) R.fh hp
    refine ⟨F, ρ, g, _, R.gro G0, w, ?_⟩
    intro v1 H1 F1 g1 d1 k1 R1 r1 w1
    have gp : g p = none := R.fresh_g hp
    obtain ⟨hp1, gp1⟩ := k1.kp p _ upd_same gp
    have f1 : F1 p = none := by
      cases z : F1 p with
      | none => rfl
      | some u =>
        have := R1.fh p u z
        rcases k1.fn p u z with y | y
        · rw [R.fh.free hp] at y; cases y
        · rw [upd_same] at y; cases y
    cases d1 with
    | dic kk dd =>
      obtain ⟨lk, w1⟩ := w1
      obtain ⟨o, od0, more, rfl, ea, hk, hn, rk, rv⟩ := r1.dic_inv
      refine ⟨o, od0, more, rfl, hp1, R1.fh _ _ ea, by rw [← hk, List.length_map] at lk; exact lk, fun q0 hq0 => ?_⟩
      have nqp : q0 ≠ p := fun z => by rw [z, upd_same] at hq0; cases hq0
      have R2 := R1.wr0 (o := .dK (mergeK [] more)) f1 gp1 (R.fresh_0 hp) (R.fresh_s hp)
      have G2 := Gro.lay0 (o := .dK []) R2.fh hq0
      refine ht σ _ _ ⟨F1, ρ, g1, _, R2.gro G2, w1, ?_⟩
      intro ps H3 F3 g3 ds k3 R3 ra rb w3
      have gq : g1 q0 = none := R2.fresh_g hq0
      obtain ⟨hq3, gq3⟩ := k3.kp q0 _ upd_same gq
      obtain ⟨hp3, gp3⟩ := k3.kp p (.dK (mergeK [] more)) (by rw [upd_ne (Ne.symm nqp), upd_same]) gp1
      cases hkk : keyed ds with
      | none => rw [hkk] at w3; exact w3.elim
      | some kds =>
        rw [hkk] at w3
        obtain ⟨h15', w3⟩ := w3
        obtain ⟨kvs, rfl, rk3⟩ := keyed_rep ra rb hkk
        have f3q : F3 q0 = none := by
          cases z : F3 q0 with
          | none => rfl
          | some u =>
            rcases k3.fn q0 u z with y | y
            · rw [R2.fh.free hq0] at y; cases y
            · rw [upd_same] at y; cases y
        have f3p : F3 p = none := by
          cases z : F3 p with
          | none => rfl
          | some u =>
            rcases k3.fn p u z with y | y
            · rw [f1] at y; cases y
            · rw [upd_ne (Ne.symm nqp), upd_same] at y; cases y
        refine ⟨kvs, rfl, by rw [rk3.length]; exact h15', hp3, hq3, p, _, rfl, upd_same, fun od => ?_⟩
        rw [upd_upd]
        have R4 := R3.wr0 (p := q0) (o := .dK (mergeK [] kvs)) f3q gq3 (R2.fresh_0 hq0) (R2.fresh_s hq0)
        have R5 := R4.lay1 (p := p) (o := .frz od (.dK (mergeK (mergeK [] more) (mergeK [] kvs)))) f3p gp3 (R.fresh_0 hp) (R.fresh_s hp)
        have ff : Same F3 (upd F3 p (.frz od (.dK (mergeK (mergeK [] more) (mergeK [] kvs))))) := fun b u e => by rw [upd_ne (ne_of_none e f3p)]; exact e
        have hq1 : H1 q0 = none := by rw [upd_ne nqp] at hq0; exact hq0
        refine q _ _ _ g3 _ ⟨fun b u e => ff b u (k3.ff b u (k1.ff b u e)), fun b u e n => ?_, fun b u e => ?_, fun b u e => ?_⟩ R5 (RepK.rep (RepK.merge (RepK.merge (rk3.mono ff) .nil) (RepK.merge (rk.mono (k3.ff.trans ff)) .nil)) upd_same (mergeD_nodup (mergeD_nodup (by simp)))) w3
        · have hb : b ≠ p := ne_of_none e hp
          obtain ⟨a1, a2⟩ := k1.kp b u (by rw [upd_ne hb]; exact e) n
          have hbq : b ≠ q0 := ne_of_none a1 hq1
          obtain ⟨b1, b2⟩ := k3.kp b u (by rw [upd_ne hbq, upd_ne hb]; exact a1) a2
          exact ⟨by rw [upd_ne hb, upd_ne hbq]; exact b1, b2⟩
        · have hb : b ≠ p := ne_of_none e hp
          obtain ⟨u1, a1⟩ := k1.dm b u (by rw [upd_ne hb]; exact e)
          have hbq : b ≠ q0 := ne_of_none a1 hq1
          obtain ⟨u2, a2⟩ := k3.dm b u1 (by rw [upd_ne hbq, upd_ne hb]; exact a1)
          exact ⟨u2, by rw [upd_ne hb, upd_ne hbq]; exact a2⟩
        · by_cases hb : b = p
          · subst hb; exact .inr hp
          · rw [upd_ne hb] at e
            rcases k3.fn b u e with y | y
            · rcases k1.fn b u y with z | z
              · exact .inl z
              · rw [upd_ne hb] at z; exact .inr z
            · by_cases hbq : b = q0
              · subst hbq; rw [upd_same] at y; cases y
              · rw [upd_ne hbq, upd_ne hb] at y
                refine .inr ?_
                cases z : H b with
                | none => rfl
                | some v =>
                  obtain ⟨u1, a1⟩ := k1.dm b v (by rw [upd_ne hb]; exact z)
                  rw [y] at a1; cases a1
    | _ => exact w1.elim
  · rintro u s1 ⟨x, H1, I1, r1, p, m, rfl, hp, q1⟩
    obtain ⟨od, I2⟩ := I1.lock hp True.intro
    exact ⟨.ref p, _, I2, r1, q1 od⟩
end
end DL

set_option Elab.async false
set_option linter.all false
set_option maxRecDepth 100000
namespace PySem.GN
open PyProof.Rows PySem.Spec
open AutoSeq1 (wpAny_loadPart')
section
variable {prog : Program} {w : World} {A : Around} {R : Result → Shared → Prop}
theorem tuple_neG (l b : Addr) (items items2 : Array Value) (n n2 : Nat) (dd dd2 : Option Addr) (sl sl2 : Array (Option Value)) (hsz : items.size = items2.size) (I : Nat → Shared → Prop)
    (turn : ∀ i (h1 : i < items.size) (h2 : i < items2.size) s, I i s → wpAny (model prog w) A.in1 (eqBool items[i] items2[i]) (fun r s' => r = true ∧ I (i + 1) s') (fun e s' => R (.error e) s') s)
    (fin : ∀ s, I items.size s → R (.ok (.ret (.bool false))) s) {s : Shared} (hl1 : s.heap.get? l = some { cls := .type "tuple", dict := dd, data := .seq items n, slots := sl }) (hb1 : s.heap.get? b = some { cls := .type "tuple", dict := dd2, data := .seq items2 n2, slots := sl2 }) (h : I 0 s) :
    wpAny (model prog w) A.in1 (Builtin.«tuple.__ne__» ⟨[.ref l, .ref b], []⟩) (GQ.FinOf prog w A R) (fun e s' => R (.error e) s') s := by
  have f2 := AutoSeq1.sub_tuple_tuple
  have hZ : (items.toList.zip items2.toList).length = items.size := by simp [hsz]
  have h0 := h
  obtain ⟨hp, g, d, tk, os⟩ := s
  wp_walk using wpAny_loadPart' hl1, wpAny_loadPart' hb1, wpAny_forIn_list _ (fun rest b s' => b.1 = none ∧ ∃ i, rest = (items.toList.zip items2.toList).drop i ∧ i ≤ items.size ∧ I i s') _
  case turn =>
    rintro ⟨y, x⟩ rest b s' ⟨hb', i, hz, hi, hI⟩
    have hlt : i < (items.toList.zip items2.toList).length := by
      rcases Nat.lt_or_ge i (items.toList.zip items2.toList).length with h' | h'
      · exact h'
      · rw [List.drop_of_length_le h'] at hz; cases hz
    have h1 : i < items.size := hZ ▸ hlt
    have h2 : i < items2.size := hsz ▸ h1
    rw [List.drop_eq_getElem_cons hlt] at hz
    injection hz with hyx hrest
    have hy : y = items[i] := by have := congrArg Prod.fst hyx; simpa using this
    have hx : x = items2[i] := by have := congrArg Prod.snd hyx; simpa using this
    subst hy hx
    refine wpAny_bind (wpAny_mono (turn i h1 h2 s' hI) (fun r s2 q2 => ?_) fun _ _ x => x)
    obtain ⟨hr, q2⟩ := q2
    subst hr
    wp_walk
    exact ⟨rfl, i + 1, hrest, h1, q2⟩
  case fin =>
    rintro ⟨b1, b2⟩ s' ⟨hb', i, hz, hi, hI⟩
    simp only at hb'
    subst hb'
    have hge : items.size ≤ i := by
      rcases Nat.lt_or_ge i (items.toList.zip items2.toList).length with h' | h'
      · rw [List.drop_eq_getElem_cons h'] at hz; cases hz
      · exact hZ ▸ h'
    have hi' : i = items.size := by omega
    have hR : R (.ok (.ret (.bool false))) s' := fin s' (hi' ▸ hI)
    wp_walk
    simpa [Builtin.Tuple.tupleCompareSizes, hsz] using hR
  case h =>
    exact ⟨rfl, 0, rfl, Nat.zero_le _, h0⟩
end
section
variable {prog : Program} {w : World} {A : Around} {E : Value → Shared → Prop} {s : Shared}
theorem rc_tupNeG {l b : Addr} {items items2 : Array Value} {Q : Value → Shared → Prop} (hsz : items.size = items2.size) (hu : A.units < cLine) (I : Nat → Shared → Prop)
    (hl : s.heap.IsTuple l items) (hb : s.heap.IsTuple b items2)
    (turn : ∀ i (h1 : i < items.size) (h2 : i < items2.size) s, I i s → wpAny (model prog w) A.in1 (eqBool items[i] items2[i]) (fun r s' => r = true ∧ I (i + 1) s') E s)
    (fin : ∀ s, I items.size s → Q (.bool false) s) (h : I 0 s) : wpAny (model prog w) A (richCompare .NotEq (.ref l) (.ref b)) Q E s := by
  obtain ⟨⟨cls, dd, data, sl⟩, ho, hc, n, hd⟩ := id hl
  obtain ⟨⟨cls2, dd2, data2, sl2⟩, ho2, hc2, n2, hd2⟩ := id hb
  simp only at hc hd hc2 hd2
  subst hc hd hc2 hd2
  refine wpAny_richCompare_same_room (op := .NotEq) ⟨_, ho, rfl⟩ ⟨_, ho2, rfl⟩ F.slot_tuple_ne (GQ.call_here F.slot_tuple_ne ⟨_, ho, rfl⟩ F.entry_tuple_ne (F.args_tuple_ne_2 _ _) ?_) hu
  exact tuple_neG (R := wants (fun v s' => v ≠ .notImplemented ∧ Q v s') E) l b items items2 n n2 dd dd2 sl sl2 hsz I turn (fun s' q => ⟨(fun x => nomatch x), fin s' q⟩) ho ho2 h
end
end PySem.GN
namespace DL
open PySem PySem.Spec PyProof.Rows L2
/-! ### (o, x) != (o2, y): the instances and the rest are equal -/
section
variable {X : Cx} {C : Addr} {cs : List Addr} {k : Nat} {a b : Expr} {pos : Pos} {ma mb : EM D} {sp : FSp}
def rNeT (X : Cx) (C : Addr) (sp : Sp) : R2 := fun x y H Q => ∃ (F : Hp) (p q a b dx dy : Addr) (vs ws : List (Option V)) (r r' : V) (dr dr' : D), x = .ref p ∧ y = .ref q ∧ SqT X.K H p [.ref a, r] ∧ SqT X.K H q [.ref b, r'] ∧
  SlX.Slt H a C dx vs ∧ SlX.Slt H b C dy ws ∧ Same F H ∧ Rep X.K F r dr ∧ Rep X.K F r' dr' ∧ deq 59 dr dr' = some true ∧ Q (.bl false) H ∧ sp [.ref a, .ref b] H (fun z H' => z = .bl true ∧ Same F H' ∧ Q (.bl false) H') noX
theorem op_neT {f : Addr} {fd : FuncData} {ps : List Str} {sp : Sp} (hm : Meth X.K C "__eq__" f) (F : FnG X.prog X.w X.K X.mg X.base (L2.CX X.prog X.w) k f fd ps sp) (hr : RoomG (k + 1) X.A) (hb : Binds X.K fd ps []) : OpR X (compareOp .NotEq) (rNeT X C sp) := by
  intro pins s σ H x y v u Q I rx ry h
  obtain ⟨Fz, p, q, a, b, dx, dy, vs, ws, r, r', dr, dr', rfl, rfl, s1, s2, t1, t2, hF, q1, q2, hd, fin, hsp⟩ := h
  have hu := hr.r.units
  obtain rfl : v = Value.ref p := rx
  obtain rfl : u = Value.ref q := ry
  obtain ⟨its, v1, p1, _⟩ := I.tuple s1
  obtain ⟨its', v2, p2, _⟩ := I.tuple s2
  obtain ⟨u1, rfl, a2⟩ : ∃ u1, its = [Value.ref a, u1] ∧ RelV r u1 := by
    cases v1 with
    | cons a1 a2 => cases a2 with | cons a2 a3 => cases a3; cases a1; exact ⟨_, rfl, a2⟩
  obtain ⟨u2, rfl, b2⟩ : ∃ u2, its' = [Value.ref b, u2] ∧ RelV r' u2 := by
    cases v2 with
    | cons a1 a2 => cases a2 with | cons a2 a3 => cases a3; cases a1; exact ⟨_, rfl, a2⟩
  obtain ⟨sl, od, _, J, _⟩ := SlX.slt_inst I t1
  obtain ⟨sl', od', _, J', _⟩ := SlX.slt_inst I t2
  obtain ⟨m, hFr⟩ := I.fr
  show wpAny (model X.prog X.w) X.A (richCompare .NotEq (.ref p) (.ref q)) _ _ _
  refine PySem.GN.rc_tupNeG (l := p) (b := q) (items := [Value.ref a, u1].toArray) (items2 := [Value.ref b, u2].toArray) rfl hr.r.units0 (fun i s' => (i = 0 ∧ s' = s) ∨ (1 ≤ i ∧ ∃ H', L2.Inv X pins σ H' s' ∧ Same Fz H' ∧ Q (.bl false) H')) p1 p2 (fun i h1 h2 s' hI => ?_) (fun s' hI => ?_) (.inl ⟨rfl, rfl⟩)
  · match i, h1, h2 with
    | 0, h1, h2 =>
      obtain rfl : s' = s := by
        rcases hI with ⟨_, h⟩ | ⟨hz, _⟩
        · exact h
        · exact absurd hz (by decide)
      show wpAny _ _ (eqBool (.ref a) (.ref b)) _ _ _
      by_cases hab : a = b
      · subst hab
        exact SeqAt.EqAt.same (A := X.A.in1) (s := s') (.ref a) X.prog X.w X.xe _ ⟨rfl, .inr ⟨Nat.le_refl _, H, I, hF, fin⟩⟩
      · refine GQ.eqBool_refG hab ?_
        refine PySem.W.cmp_K (op := .Eq) (tb := .ref C) hr.in1.r.units0 hFr I.ok.mod.kin J J'.type (by simp [PySem.W.notFirst]) hm.at_ hm.fn ?_
        refine wpAny_mono (run_no (us := [.ref a, .ref b]) (vs := [.ref a, .ref b]) F hr.in1 I.env0.in1 hb I (.cons rfl (.cons rfl .nil)) hsp) ?_ fun _ _ y => y
        rintro w s2 ⟨z, H', I', rz, rfl, hF', qz⟩
        have ew : w = Value.bool true := rz
        subst ew
        exact ⟨true, rfl, rfl, .inr ⟨Nat.le_refl _, H', I', hF', qz⟩⟩
    | 1, h1, h2 =>
      rcases hI with ⟨hz, _⟩ | ⟨_, H', I', hF', qz⟩
      · cases hz
      show wpAny _ _ (eqBool _ _) _ _ _
      have tr := (deq_tree I' hF' 59 q1 q2 a2 b2 hd).at X.A.in1 (by show X.A.units + 1 + _ < cLine; omega)
      exact tr _ _ ⟨rfl, .inr ⟨by omega, H', I', hF', qz⟩⟩
    | i + 2, h1, h2 => exact absurd h1 (by show ¬ i + 2 < 2; omega)
  · rcases hI with ⟨hz, _⟩ | ⟨_, H', I', hF', qz⟩
    · simp at hz
    · exact ⟨.bl false, H', I', rfl, qz⟩
@[simp] def eNeT (C : Addr) (sp : FSp) (ma mb : EM D) : EM D := fun ρ g Q E => ma ρ g (fun d g1 => mb ρ g1 (fun e g2 => match d, e with
  | .tup [.obj C1 fs, x], .tup [.obj C2 gs, y] => (C1 = C ∧ C2 = C ∧ deq 59 x y = some true) ∧ Q (.bl false) g2 ∧ sp [.obj C1 fs, .obj C2 gs] g2 (Hide (fun r g3 => match r with | .bl true => Q (.bl false) g3 | _ => False) ⟨⟩) (fun _ _ => False)
  | _, _ => False) E) E
theorem neT_w {B : Bs} {W : Wi} (hB : B.K = X.K) : ∀ σ H Q, tE B W (eNeT C sp ma mb) σ H Q → tOp (rNeT X C (lift B.K sp)) (tE B W ma) (tE B W mb) σ H Q := by
  rintro σ H Q ⟨F, ρ, g, QD, R, w, q⟩
  refine ⟨F, ρ, g, _, R, w, ?_⟩
  intro v1 H1 F1 g1 d1 k1 R1 r1 w1
  refine ⟨F1, ρ, g1, _, R1, w1, ?_⟩
  intro v2 H2 F2 g2 d2 k2 R2 r2 w2
  split at w2
  · rename_i C1 fs x C2 gs y
    obtain ⟨⟨h1, h2, hd⟩, fin, w2⟩ := w2
    subst h1
    subst h2
    have r1' := r1.mono k2.ff
    cases r1' with
    | tup s1 l1 =>
    cases l1 with
    | cons o1 l1 =>
    cases l1 with
    | cons x1 l1 =>
    cases l1
    cases r2 with
    | tup s2 l2 =>
    cases l2 with
    | cons o2 l2 =>
    cases l2 with
    | cons y2 l2 =>
    cases l2
    obtain ⟨a, dx, xs, rfl, hs, hr1⟩ := o1.slt R2.fh
    obtain ⟨b, dy, ys, rfl, hs', hr2⟩ := o2.slt R2.fh
    refine ⟨F2, _, _, a, b, dx, dy, _, _, _, _, x, y, rfl, rfl, by rw [← hB]; exact same_sqT R2.fh s1.sqT, by rw [← hB]; exact same_sqT R2.fh s2.sqT, hs, hs', R2.fh, by rw [← hB]; exact x1, by rw [← hB]; exact y2, hd, q _ H2 F2 g2 _ (k1.trans k2) R2 (.bl _) fin, F2, g2, [_, _], _, _, .cons o1 (.cons o2 .nil), R2.enter, w2, ?_, ?_⟩
    · intro v H' F' g' d D1 r w3
      cases d with
      | bl c =>
        cases c with
        | true => exact ⟨r.bl_inv, (Rl.ste D1).ff.trans (R2.after D1).fh, q _ H' F' g' _ ((k1.trans k2).trans (Rl.ste D1)) (R2.after D1) (.bl _) w3⟩
        | false => exact (show False from w3).elim
      | _ => exact (show False from w3).elim
    · intro cls dx' H' F' g' x D1 xr w3
      exact w3
  · exact w2.elim
theorem ev_neT (hM : Mth X.prog X.w X.K X.mg X.base C "__eq__" k sp) (hr : RoomG (k + 1) X.A) (ha : EV X a ma) (hb : EV X b mb) (hm : behindInMarks .NotEq b = false := by first | exact nomark _ | rfl) : EV X (.Compare a [.NotEq] [b] pos) (eNeT C sp ma mb) := by
  intro B W hB L
  obtain ⟨f, fd, ps, F, hbn, hme⟩ := hM.ex
  refine pe_mono (pe_cmpR (op_neT hme F hr hbn) (ha B W hB L) (hb B W hB L) hm) ?_
  intro σ H Q h
  have := neT_w hB σ H Q h
  rw [hB] at this
  exact this
end
end DL

set_option Elab.async false
set_option linter.all false
set_option maxRecDepth 100000
namespace DL
open PySem PySem.Spec PyProof.Rows L2
/-! ### k in d, k not in d -/
section
variable {X : Cx} {a b : Expr} {pos : Pos} {mk md : EM D}
@[simp] def eDin (neg : Bool) (mk md : EM D) : EM D := fun ρ g Q E => mk ρ g (fun y g1 => md ρ g1 (fun x g2 => match x, keyOf y with
  | .dic ks ds, some k => Q (.bl (if neg then !(getK (ks.zip ds) k).isSome else (getK (ks.zip ds) k).isSome)) g2
  | _, _ => False) E) E
theorem din_w {B : Bs} {W : Wi} {neg : Bool} : ∀ σ H Q, tE B W (eDin neg mk md) σ H Q → tE B W mk σ H fun y H1 => tE B W md σ H1 fun x H2 => ∃ a o, x = .ref a ∧ DGet H2 a y o ∧ Q (.bl (if neg then !o.isSome else o.isSome)) H2 := by
  rintro σ H Q ⟨F, ρ, g, QD, R, w, q⟩
  refine ⟨F, ρ, g, _, R, w, ?_⟩
  intro v1 H1 F1 g1 d1 k1 R1 r1 w1
  refine ⟨F1, ρ, g1, _, R1, w1, ?_⟩
  intro v2 H2 F2 g2 d2 k2 R2 r2 w2
  cases d2 with
  | dic ks ds =>
    obtain ⟨a, od, kvs, rfl, ea, hk, hn, rk, rv⟩ := r2.dic_inv
    cases hy : keyOf d1 with
    | none => rw [hy] at w2; exact w2.elim
    | some key =>
      rw [hy] at w2
      obtain ⟨rfl, _⟩ := key_rep r1 hy
      have e : (valV kvs key).isSome = (getK (ks.zip ds) key).isSome := by
        rcases rk.val key with ⟨v, d, e1, e2, r⟩ | ⟨e1, e2⟩
        · rw [e1, e2]; rfl
        · rw [e1, e2]; rfl
      refine ⟨a, valV kvs key, rfl, .inl ⟨kvs, key, .inr ⟨od, R2.fh _ _ ea⟩, rfl, rfl⟩, ?_⟩
      rw [e]
      exact q _ H2 F2 g2 _ (k1.trans k2) R2 (.bl _) w2
  | _ => exact w2.elim
theorem ev_din {k : Nat} (hr : Room k X.A) (ha : EV X a mk) (hb : EV X b md) (hm : behindInMarks .In b = false := by first | exact nomark _ | rfl) : EV X (.Compare a [.In] [b] pos) (eDin false mk md) := by
  intro B W hB L
  have hu := hr.units
  exact pe_mono (pe_cmp (pc_din (by omega) (ha B W hB L) (hb B W hB L)) hm) fun σ H Q h => din_w σ H Q h
theorem ev_dnotin {k : Nat} (hr : Room k X.A) (ha : EV X a mk) (hb : EV X b md) (hm : behindInMarks .NotIn b = false := by first | exact nomark _ | rfl) : EV X (.Compare a [.NotIn] [b] pos) (eDin true mk md) := by
  intro B W hB L
  have hu := hr.units
  exact pe_mono (pe_cmp (pc_dnotin (by omega) (ha B W hB L) (hb B W hB L)) hm) fun σ H Q h => din_w σ H Q h
end
/-! ### dict(d) -/
@[simp] def dictD2 : List D → Option D
  | [.dic ks ds] => some (.dic ks ds)
  | [.lst ps] => (pairsOf ps).map fun kds => mkDic (mergeD [] kds)
  | _ => none
theorem cs_dict2 {X : Cx} (hc : X.calm = true) : CS X (.type "dict") dictD2 := by
  intro pins s σ H F xs us ds dz Q I hF rx hx hf q
  unfold dictD2 at hf
  split at hf
  · rename_i ks es
    cases hf
    obtain ⟨v, rfl, r⟩ := hx.one_inv
    obtain ⟨u, eu, ru⟩ := vals1 rx
    subst eu
    obtain ⟨a, od, kvs, rfl, ea, hk, hn, rk, rv⟩ := r.dic_inv
    obtain rfl : u = Value.ref a := ru
    obtain ⟨z, lo, vs, rel, dd⟩ := dk_rd I.hok (.inr ⟨od, hF _ _ ea⟩)
    have lk : kvs.length = vs.length := Paired.length rel
    have hm : (s.heap.objs.size == sysModules) = false := beq_eq_false_iff_ne.mpr (Nat.ne_of_gt I.big)
    have hp : H s.heap.objs.size = none := I.hok.fresh (Nat.le_refl _)
    refine kt_call_dict lo dd (by omega) fun h' hd' hs' => ?_
    have I1 := I.laid (a := s.heap.objs.size) (o := .dK kvs) (h' := h') (t' := s.toks) (fun b ob e => by
      have hb : b ≠ s.heap.objs.size := Nat.ne_of_lt (Heap.lt_size e)
      rw [hs'.2 b hb]
      exact Heap.get?_push_of_some _ e) (Nat.le_refl _) (show ObjOk X.prog X.w _ _ _ (.dK kvs) from ⟨by omega, hm, vs, rel, hd'⟩)
    obtain ⟨od1, I2⟩ := I1.lock (d := s.heap.objs.size) (u := .dK kvs) upd_same True.intro
    rw [upd_upd] at I2
    have G1 := Gro.lay (o := .frz od1 (.dK kvs)) hF hp
    have e : mkDic (ks.zip es) = .dic ks es := by
      have l : ks.length = es.length := by rw [← hk, List.length_map, ← rv.length, List.length_map]
      show D.dic ((ks.zip es).map (·.1)) ((ks.zip es).map (·.2)) = _
      rw [List.map_fst_zip (by omega), List.map_snd_zip (by omega)]
    have rp := RepK.rep (rk.mono G1.ff) upd_same (by rw [List.map_fst_zip (by rw [← hk, List.length_map, ← rv.length, List.length_map]; omega)]; exact hn)
    rw [e] at rp
    exact ⟨.ref s.heap.objs.size, _, I2, rfl, q _ _ _ G1 rp⟩
  · exact cs_dict hc pins s σ H F xs us _ dz Q I hF rx hx (by simpa using hf) q
  · cases hf
/-! ### C.m(), m a classmethod -/
section
variable {X : Cx} {C : Addr} {k : Nat} {pos p apos : Pos} {x m : Str} {sp : FSp} {pl : Sem Bool}
theorem pe_cmethG0 {pr g : Addr} {mc : Value} {fd : FuncData} {ps : List Str} {sp : Sp} {E : L2.St → XK} (hg : Gl X x) (hm : X.mg x = some (.ref C)) (r : ClX.CRead X.K C mc) (c : ClX.CMet X.K C mc m pr g) (F : FnG X.prog X.w X.K X.mg X.base (L2.CX X.prog X.w) k g fd ps sp) (hr : RoomG k X.A) (hb : Binds X.K fd ps [])
    (hx : ∀ σ, PassesAt (L2.CX X.prog X.w) X σ (E σ)) (hdb : (x == ("__debug__" : Str)) = false)
    (ht : eval (.Call (.Attribute (.Name x p) m apos) [] [] pos) X.env = (do
      let ov ← eval (.Name x p) X.env
      standAt apos.atName
      let (f, first) ← holding [ov] (getMethod ov m pl)
      callWith pos f first (backTo pos (starEach [] X.env)) (backToKw pos (keywordEach [] X.env)))) : PE X (.Call (.Attribute (.Name x p) m apos) [] [] pos) (fun σ H Q => sp [.ref C] H Q (E σ)) := by
  constructor
  intro pins s σ H Q I h
  refine PySem.W.methodCall_KW (pl := pl) (thn ((pe_glob (X := X) (pos := p) (v := V.ref C) hg hm rfl hdb).run pins s σ H (fun v H1 => v = .ref C ∧ H1 = H) I ⟨rfl, rfl⟩) ?_) ht
  rintro u s1 ⟨v, H1, I1, r1, e1, e2⟩
  subst e1
  rw [e2] at I1
  have eu : u = Value.ref C := r1
  subst eu
  refine ClX.getmethcm_ok I1 r c fun s2 I2 => ?_
  have body := run_Gc (us := [.ref C]) (vs := [.ref C]) F hr hb (hx σ) I2 (.cons rfl .nil) (Q := Q) h
  have got : wpAny (model X.prog X.w) X.A (call (.ref s1.heap.objs.size) ([] ++ [])) (EP X ((s1.heap.objs.size, PySem.W.methodObj (.ref g) (.ref C)) :: pins) σ Q) X.xe s2 := wpAny_call (PySem.W.method_call (ClX.pin_at I2) body)
  exact PySem.W.callWith_M0 ⟨ClX.pin_at I2, I2.kIn⟩ c.fi (thn got fun _ _ y => ClX.unpinE y)
theorem ev_cmeth0 (hM : CMth X.prog X.w X.K X.mg X.base C m k sp) (hr : RoomG k X.A) (hg : Gl X x) (hm : X.mg x = some (.ref C)) (hdb : (x == ("__debug__" : Str)) = false := by decide)
    (ht : eval (.Call (.Attribute (.Name x p) m apos) [] [] pos) X.env = (do
      let ov ← eval (.Name x p) X.env
      standAt apos.atName
      let (f, first) ← holding [ov] (getMethod ov m pl)
      callWith pos f first (backTo pos (starEach [] X.env)) (backToKw pos (keywordEach [] X.env))) := by rfl) : EV X (.Call (.Attribute (.Name x p) m apos) [] [] pos) (eCM C sp esNil) := by
  intro B W hB L
  obtain ⟨pr, g0, mc, fd, ps, hF, hb, r, c⟩ := hM.ex
  refine pe_mono (pe_cmethG0 (E := WE (WXof B W)) (pl := pl) hg hm r c hF hr hb (fun σ => passAt L σ) hdb ht) ?_
  rintro σ H Q ⟨F, ρ, g, QD, R, w, q⟩
  rw [← hB]
  refine ⟨F, g, [.ref C], QD, _, .cons (.ref C) .nil, R.enter, w, ?_, ?_⟩
  · intro v H' F' g' d D1 r w2
    exact q v H' F' g' d (Rl.ste D1) (R.after D1) r w2
  · intro cls dx H' F' g' y D1 xr w2
    exact ⟨F', ρ, g', y, R.after D1, xr, w2⟩
end
section
variable {X : Cx} {a b : Expr} {pos : Pos} {mk md : EM D}
theorem et_din {k : Nat} (hr : Room k X.A) (ha : EV X a mk) (hb : EV X b md) (hm : behindInMarks .In b = false := by first | exact nomark _ | rfl) : ET X (.Compare a [.In] [b] pos) (tB1 (eDin false mk md)) := by
  intro B W hB L
  have hu := hr.units
  exact pt_mono (pt_cmp (pc_din (by omega) (ha B W hB L) (hb B W hB L)) hm) fun σ H Q h => din_w σ H _ (tB1_w σ H Q h)
theorem et_dnotin {k : Nat} (hr : Room k X.A) (ha : EV X a mk) (hb : EV X b md) (hm : behindInMarks .NotIn b = false := by first | exact nomark _ | rfl) : ET X (.Compare a [.NotIn] [b] pos) (tB1 (eDin true mk md)) := by
  intro B W hB L
  have hu := hr.units
  exact pt_mono (pt_cmp (pc_dnotin (by omega) (ha B W hB L) (hb B W hB L)) hm) fun σ H Q h => din_w σ H _ (tB1_w σ H Q h)
/-- f() -/
theorem ev_call0 {x : Str} {p : Pos} {k : Nat} {sp : FSp} (hD : Def X.prog X.w X.K X.mg X.base x k sp) (hr : RoomG k X.A) (hg : Gl X x) (hdb : (x == ("__debug__" : Str)) = false := by decide) : EV X (.Call (.Name x p) [] [] pos) (eCall sp esNil) := by
  intro B W hB L
  obtain ⟨f, fd, ps, hF, hm, hk, hb⟩ := hD.ex
  refine pe_mono (pe_callG0 (E := WE (WXof B W)) hF hr hg hm hk hb .nil (fun σ => passAt L σ) hdb) ?_
  rintro σ H Q ⟨F, ρ, g, QD, R, w, q⟩
  show lift X.K sp ([] ++ []) H Q _
  rw [List.append_nil, ← hB]
  refine ⟨F, g, [], QD, _, .nil, R.enter, w, ?_, ?_⟩
  · intro v H' F' g' d D1 r w2
    exact q v H' F' g' d (Rl.ste D1) (R.after D1) r w2
  · intro cls dx H' F' g' y D1 xr w2
    exact ⟨F', ρ, g', y, R.after D1, xr, w2⟩
end
/-! ### tests by own == -/
section
variable {X : Cx} {C : Addr} {cs : List Addr} {k : Nat} {a b : Expr} {pos : Pos} {ma mb : EM D} {sp : FSp}
theorem et_eqO (hM : Mth X.prog X.w X.K X.mg X.base C "__eq__" k sp) (hc : EqC X.K cs C) (hr : RoomG (k + 1) X.A) (ha : EV X a ma) (hb : EV X b mb) (hm : behindInMarks .Eq b = false := by first | exact nomark _ | rfl) : ET X (.Compare a [.Eq] [b] pos) (tB1 (eEqO false C cs sp ma mb)) := by
  intro B W hB L
  obtain ⟨f, fd, ps, F, hbn, hme⟩ := hM.ex
  refine pt_mono (pt_cmpR (op_eqO hc hme F hr hbn) (ha B W hB L) (hb B W hB L) hm) ?_
  intro σ H Q h
  have := eqO_w hB σ H _ (tB1_w σ H Q h)
  rw [hB] at this
  exact this
theorem et_neO (hM : Mth X.prog X.w X.K X.mg X.base C "__eq__" k sp) (hc : EqC X.K cs C) (hr : RoomG (k + 1) X.A) (ha : EV X a ma) (hb : EV X b mb) (hm : behindInMarks .NotEq b = false := by first | exact nomark _ | rfl) : ET X (.Compare a [.NotEq] [b] pos) (tB1 (eEqO true C cs sp ma mb)) := by
  intro B W hB L
  obtain ⟨f, fd, ps, F, hbn, hme⟩ := hM.ex
  refine pt_mono (pt_cmpR (op_neO hc hme F hr hbn) (ha B W hB L) (hb B W hB L) hm) ?_
  intro σ H Q h
  have := eqO_w hB σ H _ (tB1_w σ H Q h)
  rw [hB] at this
  exact this
theorem et_neT (hM : Mth X.prog X.w X.K X.mg X.base C "__eq__" k sp) (hr : RoomG (k + 1) X.A) (ha : EV X a ma) (hb : EV X b mb) (hm : behindInMarks .NotEq b = false := by first | exact nomark _ | rfl) : ET X (.Compare a [.NotEq] [b] pos) (tB1 (eNeT C sp ma mb)) := by
  intro B W hB L
  obtain ⟨f, fd, ps, F, hbn, hme⟩ := hM.ex
  refine pt_mono (pt_cmpR (op_neT hme F hr hbn) (ha B W hB L) (hb B W hB L) hm) ?_
  intro σ H Q h
  have := neT_w hB σ H _ (tB1_w σ H Q h)
  rw [hB] at this
  exact this
end
end DL

set_option Elab.async false
set_option linter.all false
set_option maxRecDepth 100000
namespace DL
open PySem PySem.Spec PyProof.Rows L2
/-! ### raise C(e), C an own class without __init__ -/
structure RaiC (K : PySem.W.Frag) (C : Addr) : Prop where
  ex : ∃ (bmB : List Value) (B newId initId : String), ExcBaseFacts B newId initId bmB ∧ PySem.W.excIn K C bmB newId = true
  kp : PySem.W.keepIn K (.ref C) = true
  sb : PySem.W.subIn K (.ref C) (.type "BaseException") = some true
  ty : PySem.W.typeIn K (.ref C) = some (.type "type")
section
variable {X : Cx} {C : Addr} {e : Expr} {p pos pos' : Pos} {x : Str} {m : EM D}
@[simp] def sRaise (C : Addr) (m : EM D) : SM := fun _ W ρ g => m ρ g (fun _ g1 => W ⟨.ref C, []⟩ ρ g1) (fun x g' => W x ρ g')
theorem sv_raise (hc : X.calm = true) (T : RaiC X.K C) (hg : Gl X x) (hm : X.mg x = some (.ref C)) (he : EV X e m) (hs : starEach [e] X.env = (false, eval e X.env) :: starEach [] X.env := by rfl) (hdb : (x == ("__debug__" : Str)) = false := by decide) :
    SV X (.Raise (some (.Call (.Name x p) [e] [] pos)) none pos') (sRaise C m) := by
  intro B W hB L
  obtain ⟨bmB, Bn, n1, n2, F, q⟩ := T.ex
  refine ps_mono (ps_raise hc L (SkE.pmk_own1 F q hm T.kp (raises_own T.sb T.ty) hg (he B W hB L) hs hdb)) ?_
  rintro D σ H ⟨F, ρ, g, DD, R, w, q⟩
  exact ⟨F, ρ, g, _, R, w, fun v H' F' g' d k R' r w' => ⟨F', ρ, g', ⟨.ref C, []⟩, R', ⟨rfl, rfl⟩, w'⟩⟩
end
end DL

set_option Elab.async false
set_option linter.all false
set_option maxRecDepth 100000
set_option maxHeartbeats 1000000
namespace DL
open PySem PySem.Spec PyProof.Rows L2 LamX
/-! ### f(lambda: e), f a def that calls what it got -/
section
variable {X : Cx} {pins : List (Addr × Obj)} {σ : L2.St} {H : Hp} {s : Shared}
/-- the lambda is made; the table is told before and behind -/
theorem lam_mk {c P : Addr} {q : Str} {ps : Array Value} {params : Arguments} {body : Expr} {scope : Scope} {pos : Pos} {E : Value → Shared → Prop} {Q : Value → Shared → Prop} (I : Inv X pins σ H s) (TB : TabB X.base X.mg c P) (hcode : X.env.code = .ref c) (eq : q = X.env.qual ++ "<lambda>")
    (hP : H P = some (.tbl ps)) (ht : TriplesOk ps.toList) (ha : ∀ (pos : Pos) (cv : Value), codeAmong pos ps.toList = some cv → ∃ c, cv = .ref c ∧ H c = some (CodeO c q)) (hdef : defaultsOf params X.env = ([], [])) (hfree : ∀ y ∈ scope.names, y.2 = .free → ∃ c, X.env.cells.lookup y.1 = some c)
    (h : ∀ (f c' : Addr) (pm ctv : Value) (H1 : Hp) (s' : Shared), Inv X pins σ H1 s' →
      (H1 = H ∧ ∃ p : Pos, codeAmong p ps.toList = some (.ref c')) ∨ (∃ more : Array Value, H c' = none ∧ H1 = upd (upd H P (.tbl (ps ++ more))) c' (CodeO c' q) ∧ TriplesOk (ps ++ more).toList ∧ ∀ (p : Pos) (cv : Value), codeAmong p (ps ++ more).toList = some cv → codeAmong p ps.toList = some cv ∨ cv = .ref c') →
      s'.heap.get? f = some (PySem.W.kla_obj "<lambda>" (X.env.qual ++ "<lambda>") params body scope (cloFrom X.env.cells scope.names []) pm c' ctv) → H1 f = none → f ∉ frs X.stack → Q (.ref f) s') :
    wpAny (model X.prog X.w) X.A (eval (.Lambda params body scope pos) X.env) Q E s := by
  subst eq
  have heapP : s.heap.get? P = some { cls := .none, data := .fields ps } := I.hok P _ hP
  have outF : ∀ f, s.heap.objs.size ≤ f → f ∉ frs X.stack := by
    intro f hf z
    rcases List.mem_cons.mp (I.stkSub _ z) with e | e
    · have h1 := I.lt
      rw [← e] at h1
      exact Nat.lt_irrefl _ (Nat.lt_of_lt_of_le h1 hf)
    · exact I.nofs hf e
  refine PySem.W.kla_eval hdef ?_
  cases hc : codeAmong pos ps.toList with
  | some cv =>
    obtain ⟨c', rfl, _⟩ := ha pos cv hc
    refine PySem.W.kla_makeFunctionHit (mg := X.mg) (c := c) (P := P) (ps := ps) (closure_ok hfree) I.ok.glob (I.mod.glob.keeps I.bk) hcode (TB.code.keeps I.bk) heapP ht hc (TB.bm.keeps I.bk) fun ctv h' tk hx hsz => ?_
    exact h h'.objs.size c' ((X.mg "__name__").getD .none) ctv H _ (I.kept fun b o e => Heap.get?_push_of_some _ (hx b o e)) (.inl ⟨rfl, pos, hc⟩) (Heap.get?_push_size _ rfl) (I.hok.fresh hsz) (outF _ hsz)
  | none =>
    refine PySem.W.kla_makeFunction (mg := X.mg) (c := c) (P := P) (ps := ps) (closure_ok hfree) I.ok.glob (I.mod.glob.keeps I.bk) hcode (TB.code.keeps I.bk) heapP ht hc TB.gP (TB.bm.keeps I.bk) fun c' ctv h' tk hx hge hlt hrec htb => ?_
    obtain ⟨c2, oc, vs, t, e2, hoc, hd, hv⟩ := hrec
    cases e2
    have grown : s.heap.objs.size ≤ h'.objs.size := by omega
    have newC : H c' = none := I.hok.fresh hge
    have I1 := inv_table (t' := tk) (more := #[rawInt pos.line, rawInt pos.col, .ref c']) (h' := h'.push (PySem.W.kla_obj "<lambda>" (X.env.qual ++ "<lambda>") params body scope (cloFrom X.env.cells scope.names []) ((X.mg "__name__").getD .none) c' ctv)) I hP
      (fun b o hb e => Heap.get?_push_of_some _ (hx b o hb e)) (Heap.get?_push_of_some _ htb) hge ⟨oc, vs, t, Heap.get?_push_of_some _ hoc, hd, hv⟩
    have listed : (ps ++ #[rawInt pos.line, rawInt pos.col, .ref c']).toList = ps.toList ++ [rawInt pos.line, rawInt pos.col, .ref c'] := by simp
    refine h h'.objs.size c' ((X.mg "__name__").getD .none) ctv _ _ I1 (.inr ⟨_, newC, rfl, by rw [listed]; exact PySem.TriplesOk_snoc _ _ _ _ ht, fun p cv hcv => ?_⟩) (Heap.get?_push_size _ rfl) ?_ (outF _ grown)
    · rw [listed] at hcv
      exact among_app _ ht hcv
    · have n1 : h'.objs.size ≠ c' := Nat.ne_of_gt hlt
      have n2 : h'.objs.size ≠ P := Nat.ne_of_gt (Nat.lt_of_lt_of_le (Heap.lt_size heapP) grown)
      rw [upd_ne n1, upd_ne n2]
      exact I.hok.fresh grown
end
/-- own lists are out of sight -/
def fgt (ρ : Rho) : Rho := ρ.map fun s => match s with | .acc _ => .no | s => s
theorem Rl.rebase {B : Bs} {F : Hp} {ρ : Rho} {g : G} {σ : L2.St} {H : Hp} (R : Rl B F ρ g σ H) : Rl ⟨B.K, H, g, F⟩ F (fgt ρ) g σ H where
  fh := R.fh
  f0 := Same.refl F
  fn := fun a o e => .inl ⟨o, e⟩
  dm := fun a o e => ⟨o, e⟩
  fr := fun a o e _ => e
  gg := fun a o e => ⟨(R.gg a o e).1, (R.gg a o e).2.1, .inl ⟨o, e⟩⟩
  sl := fun i s e => by
    unfold fgt at e
    rw [List.getElem?_map] at e
    cases h : ρ[i]? with
    | none => rw [h] at e; cases e
    | some t =>
      rw [h] at e
      have := R.sl i t h
      cases t with
      | no => cases e; trivial
      | acc ds => cases e; trivial
      | val d => cases e; exact this
  dj := fun i j a ds es e => by
    unfold fgt at e
    rw [List.getElem?_map] at e
    cases h : ρ[i]? with
    | none => rw [h] at e; cases e
    | some t => rw [h] at e; cases t <;> cases e
  ln := by unfold fgt; rw [List.length_map]; exact R.ln
/-- the table is written, the code object is known from now on -/
theorem Rl.code {B : Bs} {F : Hp} {ρ : Rho} {g : G} {σ : L2.St} {H : Hp} {P c' : Addr} {q : Str} {ps more : Array Value} (R : Rl B F ρ g σ H) (gP : g P = some (.tab q)) (hP : H P = some (.tbl ps)) (ha : ∀ (pos : Pos) (cv : Value), codeAmong pos ps.toList = some cv → ∃ c, cv = .ref c ∧ F c = some (CodeO c q))
    (nC : H c' = none) (ht : TriplesOk (ps ++ more).toList) (hm : ∀ (p : Pos) (cv : Value), codeAmong p (ps ++ more).toList = some cv → codeAmong p ps.toList = some cv ∨ cv = .ref c') :
    Rl B (upd F c' (CodeO c' q)) ρ g σ (upd (upd H P (.tbl (ps ++ more))) c' (CodeO c' q)) ∧ Ste g H F g (upd (upd H P (.tbl (ps ++ more))) c' (CodeO c' q)) (upd F c' (CodeO c' q)) := by
  have ne : P ≠ c' := ne_of_none hP nC
  have nF : F c' = none := R.fh.free nC
  have G1 := Gro.lay (o := CodeO c' q) R.fh nC
  have R1 := R.gro G1
  have R2 := R1.trk (a := P) (o0 := .tab q) (o := .tab q) (u := .tbl (ps ++ more)) gP (fun c z => by cases z) ⟨ps ++ more, upd_same, ht, fun pos cv hc => by
    rcases hm pos cv hc with z | z
    · obtain ⟨c, e1, e2⟩ := ha pos cv z
      exact ⟨c, e1, G1.ff _ _ e2⟩
    · exact ⟨c', z, upd_same⟩⟩
  rw [gset_self gP] at R2
  have eH : upd (upd H c' (CodeO c' q)) P (.tbl (ps ++ more)) = upd (upd H P (.tbl (ps ++ more))) c' (CodeO c' q) := by
    funext b
    by_cases h1 : b = P
    · subst h1; rw [upd_same, upd_ne ne, upd_same]
    · by_cases h2 : b = c'
      · subst h2; rw [upd_ne h1, upd_same, upd_same]
      · rw [upd_ne h1, upd_ne h2, upd_ne h2, upd_ne h1]
  rw [eH] at R2
  refine ⟨R2, G1.ff, fun a o e n => ?_, fun a o e => ?_, fun a o e => ?_⟩
  · have h1 : a ≠ P := fun z => by rw [z, gP] at n; cases n
    have h2 : a ≠ c' := ne_of_none e nC
    exact ⟨by rw [upd_ne h2, upd_ne h1]; exact e, n⟩
  · have h2 : a ≠ c' := ne_of_none e nC
    by_cases h1 : a = P
    · subst h1; exact ⟨_, by rw [upd_ne h2, upd_same]⟩
    · exact ⟨o, by rw [upd_ne h2, upd_ne h1]; exact e⟩
  · by_cases h2 : a = c'
    · subst h2; exact .inr nC
    · rw [upd_ne h2] at e; exact .inl e
end DL

set_option Elab.async false
set_option linter.all false
set_option maxRecDepth 100000
set_option maxHeartbeats 1000000
namespace DL
open PySem PySem.Spec PyProof.Rows L2 LamX
section
variable {X : Cx} {pins : List (Addr × Obj)} {σ : L2.St} {H HZ : Hp} {s : Shared}
/-- x(), where x holds the lambda, in the def that got it -/
theorem pe_actG {Ng : List Str} {qg : Str} {sg : Scope} {g f c' : Addr} {cdg pm ctv : Value} {params : Arguments} {body : Expr} {scope : Scope} {k i : Nat} {a : Str} {pn : List (Addr × Obj)} {xe : Value → Shared → Prop} {E0 : XK} {E : L2.St → XK} {tb : XK → TE} {p1 p2 : Pos}
    (I : Inv X pins σ H s) (L : LamS X.env.scope scope) (hf : s.heap.get? f = some (PySem.W.kla_obj "<lambda>" (X.env.qual ++ "<lambda>") params body scope (cloFrom X.env.cells scope.names []) pm c' ctv)) (hfn : H f = none) (hfr : f ∉ frs X.stack)
    (hbind : bindArgs (PySem.W.kla_fn "<lambda>" (X.env.qual ++ "<lambda>") params body scope (cloFrom X.env.cells scope.names []) pm (.ref c') ctv) ⟨[], []⟩ = pure [])
    (hx : ∀ σZ, PassesAt (L2.CX X.prog X.w) ((cxOf (L2.CX X.prog X.w) X.prog X.w X.K X.mg X.base Ng qg sg g cdg X.A X.stack s H E0).tr pn xe) σZ (E σZ)) (hr : RoomG (k + 1) (X.A.deeper (envOfC qg sg s.heap.objs.size g cdg)))
    (hbody : ∀ (A : Around) (outer : List Env) (s : Shared) (H : Hp) (E : XK), RoomG k (A.deeper (lamEnv X scope s.heap.objs.size f c')) → PE (lamCx X A outer s H E scope f c') body (tb E))
    (hN : Ng[i]? = some a) (hv : Vis sg a) (hd : (a == ("__debug__" : Str)) = false) (hcd : (a == ("__classdict__" : Str)) = false) :
    PE ((cxOf (L2.CX X.prog X.w) X.prog X.w X.K X.mg X.base Ng qg sg g cdg X.A X.stack s H E0).tr pn xe) (.Call (.Name a p1) [] [] p2)
      (fun σZ HZ Q => σZ[i]? = some (some (.ref f)) ∧ HZ c' = some (CodeO c' (X.env.qual ++ "<lambda>")) ∧ tb (E σZ) σ HZ Q) := by
  constructor
  rintro pinsZ sZ σZ HZ Q IZ ⟨hs, hc, ht⟩
  refine wpAny_Call_Name_kw (thn ((pe_var (pos := p1) (i := i) hN hv hd hcd).run pinsZ sZ σZ HZ (fun v H1 => v = .ref f ∧ H1 = HZ) IZ ⟨.ref f, hs, rfl, rfl⟩) ?_)
  rintro u s1 ⟨v, H1, I1, r1, ev, eH⟩
  subst ev
  rw [eH] at I1
  have eu : u = Value.ref f := r1
  subst eu
  have there := I1.base.keep f _ hf hfn hfr (fun z => nomatch (show f ∈ ([] : List Addr) from z))
  refine PySem.W.callWith_F0 ⟨_, _, _, _, there⟩ ?_
  have un : Un (frs X.stack) [] H HZ s.heap s1.heap := I1.base
  obtain ⟨⟨oc, vs, t, hoc, hdc, hvc⟩, _, _⟩ := I1.hok c' _ hc
  have rc : codeAny (model X.prog X.w) (X.A.deeper (envOfC qg sg s.heap.objs.size g cdg)) (.call (.ref f) ⟨[], []⟩) (CR (L2.CX X.prog X.w) (envOfC qg sg s.heap.objs.size g cdg :: X.stack) X.prog X.w HZ s1 Q (E σZ)) s1 := by
    refine PySem.W.kla_callFunE hr.r.depth there rfl L.co L.gen rfl ⟨c', oc, vs, t, rfl, hoc, hdc, hvc⟩ ?_
    rw [hbind]
    refine wpAny_pure (wpAny_newFunctionEnv (fun y hy => (L.own y hy).2) (fun y hy => absurd hy (by simp)) (fun h₁ hns hsb => ⟨I1.nolimit.fresh _ hsb, ?_⟩) L.kind)
    show codeAny _ _ (.expr body (lamEnv X scope s1.heap.objs.size f c')) _ _
    have kp : ∀ b o, s1.heap.get? b = some o → h₁.get? b = some o := fun b o e => hsb.extBut b o (Nat.ne_of_lt (Heap.lt_size e)) (Heap.get?_push_of_some _ e)
    have J : Inv (lamCx X (X.A.deeper (envOfC qg sg s.heap.objs.size g cdg)) (envOfC qg sg s.heap.objs.size g cdg :: X.stack) s1 HZ (E σZ) scope f c') [] σ HZ { s1 with heap := h₁, toks := s1.toks + ([] : List (Str × Value)).length } :=
      lam_start2 I L I1.env0 hr.r.hd un hns kp
    refine PySem.W.kla_codeExpr (wpAny_mono ((hbody _ _ s1 HZ (E σZ) (hr.deeper _)).run [] _ _ HZ Q J ht) ?_ fun e s' hq => hq)
    rintro v s' ⟨w', H', J', rv, q⟩
    exact ⟨w', H', J'.os, J'.bare, J'.base, J'.hok, rv, q⟩
  refine wpAny_call (codeAny_mono rc fun r s' hq => ?_)
  match r, hq with
  | .error e, hq => exact hx σZ pinsZ HZ s1 e s' I1 hq
  | .ok (.ret u), hq => exact I1.after hq
  | .ok .next, hq => exact hq.elim
  | .ok .brk, hq => exact hq.elim
  | .ok .cont, hq => exact hq.elim
end
/-! ### try: e() / except C1: .. / except C2: .. -/
/-- what the clauses make of an exception: each returns -/
def catD (S : Addr → Addr → Option Bool) (rt : D → G → Prop) (g0 : G) : List (Addr × SM) → Exn → Rho → G → Prop
  | [], _, _, _ => False
  | (c, m) :: r, x, ρ, g => ∃ a b, x.cls = .ref a ∧ S a c = some b ∧ (b = true → m { nx := fun _ _ => False, rt := rt, g0 := g0 } (fun _ _ _ => False) ρ g) ∧ (b = false → catD S rt g0 r x ρ g)
inductive HdsD (X : Cx) : List ExceptHandler → List (Addr × SM) → Prop
  | nil : HdsD X [] []
  | cons {x : Str} {c : Addr} {m : SM} {b₀ : Stmt} {suite : List Stmt} {np pos' : Pos} {hds : List ExceptHandler} {l : List (Addr × SM)} (hc : Names X x (.ref c))
      (hsu : ∀ (a : Addr) (oe : Obj) (pn : List (Addr × Obj)), SVs (X.suite a ((a, oe) :: pn)) (b₀ :: suite) m) (r : HdsD X hds l) : HdsD X (.ExceptHandler (some (.Name x np)) none (b₀ :: suite) pos' :: hds) ((c, m) :: l)
def tsD (B : Bs) (m : SM) : Addr → Value → Option Addr → TS := fun _ _ _ => tS B (fun _ _ _ => False) m
theorem HdsD.ok {X : Cx} {B : Bs} (hB : B.K = X.K) {hds : List ExceptHandler} {l : List (Addr × SM)} (h : HdsD X hds l) : HdsOk X hds (l.map fun p => (.ref p.1, tsD B p.2)) := by
  induction h with
  | nil => exact .nil
  | cons hc hsu r ih => exact .cons hc (fun a oe cls d pn _ _ => hsu a oe pn B (fun _ _ _ => False) hB (Takes.imp takes_none5 fun c d σ H ⟨_, _, _, _, _, _, z⟩ => z.elim)) ih
theorem catD_many {K : PySem.W.Frag} {S : Addr → Addr → Option Bool} (hS : ∀ a c b, S a c = some b → PySem.W.exmOne K (.ref a) (.ref c) = some b) {B : Bs} {D : Ends} {DD : SE} {F0 : Hp} {Wout : WX} (q : EndOk B F0 DD D) {cls : Value} {d : Option Addr} {σ : L2.St} {H : Hp} {F : Hp} {ρ : Rho} {g : G} {x : Exn} (R : Rl B F ρ g σ H) (hx : cls = x.cls) :
    ∀ l : List (Addr × SM), catD S DD.rt DD.g0 l x ρ g → wMany K Wout D (l.map fun p => (.ref p.1, tsD B p.2)) cls d σ H
  | [], h => h.elim
  | (c, m) :: r, h => by
    obtain ⟨a, b, e0, e1, h1, h2⟩ := h
    refine ⟨b, by rw [hx, e0]; exact hS _ _ _ e1, fun hb a _ => ?_, fun hb => catD_many hS q R hx r (h2 hb)⟩
    exact ⟨F, ρ, g, _, R, h1 hb, ⟨fun _ _ _ _ _ _ _ z => z.elim, q.rt, fun _ _ _ _ _ _ _ z => z.elim, fun _ _ _ _ _ _ _ z => z.elim, q.gz⟩⟩
def sMet (S : Addr → Addr → Option Bool) (ma : EM D) (l : List (Addr × SM)) (mr : SM) : SM := fun DD W ρ g => ma ρ g (fun _ g1 => mr DD W ρ g1) (fun x g1 => catD S DD.rt DD.g0 l x ρ g1)
theorem pss_met {Z : Cx} {S : Addr → Addr → Option Bool} (hS : ∀ a c b, S a c = some b → PySem.W.exmOne Z.K (.ref a) (.ref c) = some b) {B : Bs} {ecall : Expr} {h₀ : ExceptHandler} {hds : List ExceptHandler} {l : List (Addr × SM)} {rest : List Stmt} {mr : SM} {ma : EM D} {p1 p2 : Pos} (hs : Z.stack = Z.env :: Z.outer) (hf : Z.env.frame = some Z.env.locals) (hB : B.K = Z.K)
    (hact : ∀ (W : Wi) (pn : List (Addr × Obj)) (xe : Value → Shared → Prop), Lk (Z.tr pn xe) B W → PE (Z.tr pn xe) ecall (tE B W ma)) (hsw : ∀ pn xe, swapsWith ecall none p1.line (Z.tr pn xe).env = pure false) (hh : HdsD Z (h₀ :: hds) l) (hr : SVs Z rest mr) (W : Wi) (L : Lk Z B W) :
    PSs Z (.Try [.Expr ecall p1] (h₀ :: hds) [] [] p2 :: rest) (tS B W (sMet S ma l mr)) := by
  have body := ps_try_many (X := Z) (pos := p2) (body := [.Expr ecall p1]) (Wout := WXof B W) (l := l.map fun p => (.ref p.1, tsD B p.2))
    (tb := fun Wx D σ H => ∃ W' : Wi, (∀ cls d σ' H', WXof B W' cls d σ' H' → Wx cls d σ' H') ∧ tE B W' ma σ H fun _ H1 => D.nx σ H1) hs hf L
    (fun Wx pn xe tk _ => ⟨fun pins s σ H D I h => by
      obtain ⟨W', hW, ht⟩ := h
      exact (pss_one (ps_expr (hact W' pn xe (Takes.imp tk hW)) (hsw pn xe))).run pins s σ H D I ht⟩) (hh.ok hB)
  refine ⟨fun pins s σ H D I h => (pss_cons body (hr B W hB L)).run pins s σ H D I ?_⟩
  obtain ⟨F, ρ, g, DD, R, w, q⟩ := h
  refine ⟨fun x ρ' g' => catD S DD.rt DD.g0 l x ρ' g', ?_, F, ρ, g, _, R, w, ?_⟩
  · rintro cls d σ' H' ⟨F', ρ', g', x, R', xr, hc⟩
    have q' : EndOk B F { DD with nx := fun _ _ => False } { D with nx := tS B W mr D } := ⟨fun _ _ _ _ _ _ _ z => z.elim, q.rt, q.bk, q.ct, q.gz⟩
    exact catD_many (DD := { DD with nx := fun _ _ => False }) hS q' R' xr.1 l hc
  · intro v H' F' g' d k R' r w'
    exact ⟨F', ρ, g', DD, R', w', q.mono k.ff⟩
end DL

set_option Elab.async false
set_option linter.all false
set_option maxRecDepth 100000
set_option maxHeartbeats 1000000
namespace DL
open PySem PySem.Spec PyProof.Rows L2 LamX
/-! ### x(lambda: e), x a def: try: a() / except ..: return .. / rest -/
def eAct (f0 : Addr) (sp : G → (D → G → Prop) → (Exn → G → Prop) → Prop) : EM D := fun ρ g Q E => ρ[0]? = some (.val (.ref f0)) ∧ sp g Q E
def eLam (P : Addr) (q : Str) (Ng : List Str) (S : Addr → Addr → Option Bool) (l : List (Addr × SM)) (mr : SM) (mb : EM D) : EM D := fun ρ g Q _ =>
  g P = some (.tab q) ∧ ∀ f0 : Addr, sMet S (eAct f0 (mb (fgt ρ))) l mr { nx := fun _ g' => Q .non g', rt := Q, g0 := g } (fun _ _ _ => False) (startR Ng [.ref f0]) g
theorem slot_ref {B : Bs} {F : Hp} {ρ : Rho} {g : G} {σ : L2.St} {H : Hp} {i : Nat} {f : Addr} (R : Rl B F ρ g σ H) (h : ρ[i]? = some (.val (.ref f))) : σ[i]? = some (some (.ref f)) := by
  obtain ⟨v, e, r⟩ := R.sl i _ h
  cases r
  exact e
section
variable {X : Cx}
theorem ev_lam {P c g0 : Addr} {q x a : Str} {st : Stmt} {fd : FuncData} {Ng : List Str} {k : Nat} {S : Addr → Addr → Option Bool} {h₀ : ExceptHandler} {hds : List ExceptHandler} {l : List (Addr × SM)} {rest : List Stmt} {mr : SM} {mb : EM D} {params : Arguments} {body : Expr} {scope : Scope} {p lpos pos p1 p2 q1 q2 : Pos}
    (hS : ∀ a c b, S a c = some b → PySem.W.exmOne X.K (.ref a) (.ref c) = some b)
    (hg : Gl X x) (hm : X.mg x = some (.ref g0)) (F : Fun X.K x x st g0 fd) (hb : L2.Binds X.K fd [a] []) (Sg : FnScope Ng [a] (defScope st)) (hNg : Ng[0]? = some a) (hva : Vis (defScope st) a)
    (hbd : defBody st = .Try [.Expr (.Call (.Name a p1) [] [] p2) q1] (h₀ :: hds) [] [] q2 :: rest)
    (hh : ∀ (cdv : Value) (A : Around) (outer : List Env) (s : Shared) (H : Hp), HdsD (cxOf (L2.CX X.prog X.w) X.prog X.w X.K X.mg X.base Ng x (defScope st) g0 cdv A outer s H (fun _ _ _ => False)) (h₀ :: hds) l)
    (hrest : ∀ (cdv : Value) (A : Around) (outer : List Env) (s : Shared) (H : Hp), SVs (cxOf (L2.CX X.prog X.w) X.prog X.w X.K X.mg X.base Ng x (defScope st) g0 cdv A outer s H (fun _ _ _ => False)) rest mr)
    (TB : TabB X.base X.mg c P) (hcode : X.env.code = .ref c) (hq : q = X.env.qual ++ "<lambda>") (hr : RoomG (k + 3) X.A) (Ls : LamS X.env.scope scope) (hdef : defaultsOf params X.env = ([], []))
    (hbind : ∀ (q : Str) (cl : List (Str × Addr)) (pm cv ctv : Value), bindArgs (PySem.W.kla_fn "<lambda>" q params body scope cl pm cv ctv) ⟨[], []⟩ = pure [])
    (hbody : ∀ (A : Around) (outer : List Env) (s : Shared) (H : Hp) (E : XK) (f c' : Addr), RoomG k (A.deeper (lamEnv X scope s.heap.objs.size f c')) → EV (lamCx X A outer s H E scope f c') body mb)
    (hdb : (x == ("__debug__" : Str)) = false := by decide) (hd : (a == ("__debug__" : Str)) = false := by decide) (hcd : (a == ("__classdict__" : Str)) = false := by decide) :
    EV X (.Call (.Name x p) [.Lambda params body scope lpos] [] pos) (eLam P q Ng S l mr mb) := by
  intro B W hB Lk0
  refine ⟨fun pins s σ H Q I h => ?_⟩
  obtain ⟨F0, ρ, g, QD, R, ⟨gP, w⟩, qd⟩ := h
  obtain ⟨⟨ps, hP, ht, ha⟩, _⟩ := R.gg P _ gP
  obtain ⟨oc, od, kV, doc, pm, an, cdv, ct, osl, efd, lk, hcg⟩ := F.ex
  subst efd
  refine wpAny_Call_Name_kw (ld_glob I hg hm ?_ hdb)
  refine PySem.W.callWith_K (h₀ := X.base) I.ok.mod.kin F.kp ?_ (by rfl) (by rfl)
  show wpAny _ _ (spliced ((false, eval (.Lambda params body scope lpos) X.env) :: backTo pos (starEach [] X.env))) _ _ s
  refine Calls.spliced_cons (lam_mk I TB hcode hq hP ht (fun pos cv hc => let ⟨c, e1, e2⟩ := ha pos cv hc; ⟨c, e1, R.fh _ _ e2⟩) hdef (Ls.has I.ok) fun f c' pm' ctv H1 s' I1 hH hf hfn hfr => ?_)
  refine Calls.spliced_nil ⟨I1.kIn, ?_⟩
  obtain ⟨F1, R1, k1, hc1⟩ : ∃ F1, Rl B F1 ρ g σ H1 ∧ Ste g H F0 g H1 F1 ∧ F1 c' = some (CodeO c' q) := by
    rcases hH with ⟨rfl, p, hco⟩ | ⟨more, nC, rfl, ht', hm'⟩
    · obtain ⟨c2, e1, e2⟩ := ha p _ hco
      cases e1
      exact ⟨F0, R, Ste.refl, e2⟩
    · have := R.code gP hP ha nC ht' hm'
      exact ⟨_, this.1, this.2, upd_same⟩
  have rc : codeAny (model X.prog X.w) X.A (.call (.ref g0) ⟨[.ref f], []⟩) (CR (L2.CX X.prog X.w) X.stack X.prog X.w H1 s' Q fun _ _ _ => False) s' := by
    refine run_ofS (CX := L2.CX X.prog X.w) (N := Ng) (ps := [a]) (us := [.ref f]) (vs := [.ref f]) (k := k + 1) lk hcg Sg (hr.r.mono (by omega)) I1.env0 (hb s' [.ref f] I1.kIn rfl) (.cons rfl .nil) rfl fun hr' => ?_
    have hrG : RoomG (k + 1) (X.A.deeper (envOfC x (defScope st) s'.heap.objs.size g0 cdv)) := ⟨hr', hr.gd⟩
    have lkM : Lk (cxOf (L2.CX X.prog X.w) X.prog X.w X.K X.mg X.base Ng x (defScope st) g0 cdv X.A X.stack s' H1 (fun _ _ _ => False)) ⟨B.K, H1, g, F1⟩ (fun _ _ _ => False) :=
      Takes.imp (takes_of (E := fun _ _ _ => False) rfl rfl rfl rfl) fun c d σ H' ⟨_, _, _, _, _, _, z⟩ => z.elim
    have act : ∀ (W : Wi) (pn : List (Addr × Obj)) (xe : Value → Shared → Prop), Lk ((cxOf (L2.CX X.prog X.w) X.prog X.w X.K X.mg X.base Ng x (defScope st) g0 cdv X.A X.stack s' H1 (fun _ _ _ => False)).tr pn xe) ⟨B.K, H1, g, F1⟩ W →
        PE ((cxOf (L2.CX X.prog X.w) X.prog X.w X.K X.mg X.base Ng x (defScope st) g0 cdv X.A X.stack s' H1 (fun _ _ _ => False)).tr pn xe) (.Call (.Name a p1) [] [] p2) (tE ⟨B.K, H1, g, F1⟩ W (eAct f (mb (fgt ρ)))) := by
      intro Wt pn xe Lt
      refine pe_mono (pe_actG (i := 0) (k := k) (E := WE (WXof ⟨B.K, H1, g, F1⟩ Wt))
        (tb := fun E σ HZ Q => ∃ (W' : Wi) (B' : Bs), B'.K = X.K ∧ (∀ cls d σ H, WXof B' W' cls d σ H → E cls d H) ∧ tE B' W' mb σ HZ Q)
        I1 Ls hf hfn hfr (hbind _ _ _ _ _) (fun σ => passAt Lt σ) hrG (fun A outer s H E hr2 => ⟨fun pins s1 σ1 H1 Q1 I h => ?_⟩) hNg hva hd hcd) ?_
      · obtain ⟨W', B', hB', hE, ht⟩ := h
        exact ((hbody A outer s H E f c' hr2) B' W' hB' (Takes.imp (takes_of (E := E) rfl rfl rfl rfl) hE)).run pins s1 σ1 H1 Q1 I ht
      · rintro σZ HZ QZ ⟨FZ, ρZ, gZ, QDZ, RZ, ⟨hs, wz⟩, qz⟩
        have D1 := RZ.forget
        have RO : Rl B FZ ρ gZ σ HZ := R1.after D1
        have sf := slot_ref RZ hs
        have hcZ : HZ c' = some (CodeO c' (X.env.qual ++ "<lambda>")) := by rw [← hq]; exact RZ.fh _ _ (RZ.f0 _ _ hc1)
        refine ⟨sf, hcZ, fun x _ g' => Wt x ρZ g', ⟨B.K, HZ, gZ, FZ⟩, hB, ?_, FZ, fgt ρ, gZ, QDZ, RO.rebase, wz, ?_⟩
        · rintro cls d σ' H' ⟨F', ρ', g', x', R', xr, wx⟩
          exact ⟨F', ρZ, g', x', RZ.after R'.forget, xr, wx⟩
        · intro v H' F' g' d k' R' r w'
          exact qz v H' F' g' d (Rl.ste R'.forget) (RZ.after R'.forget) r w'
    have hps := pss_met (Z := cxOf (L2.CX X.prog X.w) X.prog X.w X.K X.mg X.base Ng x (defScope st) g0 cdv X.A X.stack s' H1 (fun _ _ _ => False)) (B := ⟨B.K, H1, g, F1⟩) hS rfl rfl hB act (fun _ _ => by rfl) (hh cdv X.A X.stack s' H1) (hrest cdv X.A X.stack s' H1) (p1 := q1) (p2 := q2) (fun _ _ _ => False) lkM
    rw [hbd]
    refine ⟨_, hps, F1, startR Ng [.ref f], g, _, ?_, w f, ?_⟩
    · exact (R1.enter).start (.cons (.ref f) .nil)
    · exact ⟨fun σ' H' F' ρ' g' e R' w' => qd _ H' F' g' _ (k1.trans (Rl.ste R'.forget)) (R1.after R'.forget) .non w', fun v σ' H' F' ρ' g' d R' r w' => qd v H' F' g' d (k1.trans (Rl.ste R'.forget)) (R1.after R'.forget) r w', fun _ _ _ _ _ _ _ z => z.elim, fun _ _ _ _ _ _ _ z => z.elim, rfl⟩
  refine wpAny_call (codeAny_mono rc fun r s2 hq => ?_)
  match r, hq with
  | .error e, hq =>
    obtain ⟨_, _, _, _, _, _, _, _, _, _, _, _, z⟩ := hq
    exact z.elim
  | .ok (.ret u), hq => exact I1.after hq
  | .ok .next, hq => exact hq.elim
  | .ok .brk, hq => exact hq.elim
  | .ok .cont, hq => exact hq.elim
end
end DL

set_option Elab.async false
set_option linter.all false
set_option maxRecDepth 100000
set_option maxHeartbeats 1000000
namespace DL
open PySem PySem.Spec PyProof.Rows L2 LamX
/-! ### the law's own call, where lambdas are made -/
theorem law_callTG {P : Program} {w : World} {K : PySem.W.Frag} {mg mb : Str → Option Value} {CX : CXT} {k : Nat} {fa a : Addr} {cs : List (Addr × Addr)} {fd : FuncData} {x : Str} {sp : Sp} {sh : Shared} {vs : List Value} {ns : List Int}
    (KH : K.In sh.heap) (hns : sh.heap.Ns mainGlobals mg) (hbl : sh.heap.Ns builtinsNs mb) (hboot : ∀ x : Str, x ≠ "__name__" → mb x = bootBuiltins x)
    (hlim : sh.heap.NoLimit) (hgen : sh.gens = #[])
    (hT : ∀ p ∈ cs, sh.heap.get? p.2 = some { cls := .none, data := .fields #[] }) (nT : ∀ p ∈ cs, K.lookup p.2 = none) (C : ∀ p ∈ cs, PySem.W.CodeHd sh.heap p.1 p.2)
    (hbm : ∃ (bm : Addr) (ob : Obj), mg "__builtins__" = some (.ref bm) ∧ bm ≠ builtinsNs ∧ sh.heap.get? bm = some ob ∧ ob.cls = .type "module" ∧ ob.dict = some builtinsNs ∧ ob.data = .plain)
    (here : sh.heap.get? a = some { cls := .type "list", data := .seq vs.toArray })
    (hi : IntsAre vs ns) (short : ns.length ≤ sizeLine) (room : Room k callerA)
    (F : ∀ base : Heap, K.In base → base.Ns mainGlobals mg → (∀ p ∈ cs, TabB base mg p.1 p.2) → FnG P w K mg base CX k fa fd [x] sp)
    (hbind : ∀ (s : Shared) (u : Value), BindsTo s fd ⟨[u], []⟩ [(x, u)])
    (hsp : ∀ H0 : Hp, (∀ p ∈ cs, H0 p.2 = some (.tbl #[])) → SqL K H0 a (ns.map V.int) → sp [.ref a] H0 (fun v _ => v = .bl true) fun _ _ _ => False)
    (hCX : ∀ H0 e s', CX [] H0 sh (fun _ _ _ => False) e s' → False) :
    codeAny (model P w) callerA (.call (.ref fa) ⟨[.ref a], []⟩)
      (fun r s' => r = .ok (.ret (.bool true)) ∧ OldK sh.heap s'.heap ∧ s'.os = sh.os ∧ AllBare s'.gens) sh := by
  have vals := vals_ints hi
  have same := hi.length
  have tabAt : ∀ {c : Addr}, c ∈ cs.map (·.2) → sh.heap.get? c = some { cls := .none, data := .fields #[] } := by
    intro c hc
    obtain ⟨p, hp, rfl⟩ := List.mem_map.mp hc
    exact hT p hp
  have inT : ∀ p ∈ cs, p.2 ∈ cs.map (·.2) := fun p hp => List.mem_map.mpr ⟨p, hp, rfl⟩
  have scriptT : a ∉ cs.map (·.2) := fun z => by
    have := tabAt z
    rw [here] at this
    have := congrArg Obj.data (Option.some.inj this)
    cases this
  -- at an abstract heap that tracks the script and the tables
  have main : ∀ H0 : Hp, (∀ p ∈ cs, H0 p.2 = some (.tbl #[])) → (∀ c, H0 c = none ∨ c ∈ cs.map (·.2) ∨ ∃ o ys, H0 c = some (.frz o (.lst ys))) → SqL K H0 a (ns.map V.int) → HOk P w H0 sh.heap → (∀ c, H0 c ≠ none → c = a ∨ c ∈ cs.map (·.2)) → (H0 a ≠ none → K.lookup a = none) →
      codeAny (model P w) callerA (.call (.ref fa) ⟨[.ref a], []⟩)
        (fun r s' => r = .ok (.ret (.bool true)) ∧ OldK sh.heap s'.heap ∧ s'.os = sh.os ∧ AllBare s'.gens) sh := by
    intro H0 tabs only sq ok one out
    have old : ∀ {c : Addr} {ob : Obj}, sh.heap.get? c = some ob → H0 c = none → (hidT sh.heap H0).get? c = some ob := fun z n => hidT_get z n
    have apart : ∀ {c : Addr} {ob : Obj}, sh.heap.get? c = some ob → (∀ vs n, ob.data ≠ .seq vs n) → ob.data ≠ .fields #[] → H0 c = none := by
      intro c ob z d1 d2
      refine Classical.byContradiction fun nn => ?_
      rcases one c nn with e | e
      · rw [e, here] at z
        cases z
        exact d1 _ _ rfl
      · rw [tabAt e] at z
        cases z
        exact d2 rfl
    have spaces : ∀ {c : Addr} {m : Str → Option Value}, sh.heap.Ns c m → (hidT sh.heap H0).Ns c m := by
      rintro c m ⟨ob, es, ep, z, dd, rest⟩
      exact ⟨ob, es, ep, old z (apart z (fun _ _ y => by rw [dd] at y; cases y) (fun y => by rw [dd] at y; cases y)), dd, rest⟩
    have inK : K.In (hidT sh.heap H0) := by
      intro c ob z
      refine old (KH c ob z) (Classical.byContradiction fun nn => ?_)
      rcases one c nn with e | e
      · subst e
        rw [out nn] at z
        cases z
      · obtain ⟨p, hp, e⟩ := List.mem_map.mp e
        rw [← e, nT p hp] at z
        cases z
    have tb : ∀ p ∈ cs, TabB (hidT sh.heap H0) mg p.1 p.2 := by
      intro p hp
      have hTp := hT p hp
      refine ⟨?_, ?_, fun z => ?_⟩
      · obtain ⟨o, us, file, tf, flags, tg, inF, text, tt, e1, r1, r2, r3, r4, r5, r6, r7, r8, hne⟩ := C p hp
        refine ⟨o, us, file, tf, flags, tg, inF, text, tt, old e1 (apart e1 (fun _ _ y => by rw [r2] at y; cases y) (fun y => ?_)), r1, r2, r3, r4, r5, r6, r7, r8, hne⟩
        rw [r2] at y
        cases y
        simp at r3
      · obtain ⟨bm, ob, b1, b2, b3, b4, b5, b6⟩ := hbm
        refine ⟨bm, ob, b1, b2, fun y => ?_, fun y => ?_, old b3 (apart b3 (fun _ _ y => by rw [b6] at y; cases y) (fun y => by rw [b6] at y; cases y)), b4, b5, b6⟩
        · obtain ⟨o, es, ep, e, hd, _⟩ := hns
          rw [y, e] at b3
          cases b3
          rw [hd] at b6
          cases b6
        · rw [y, hTp] at b3
          cases b3
          cases b6
      · obtain ⟨o, es, ep, e, hd, _⟩ := hns
        rw [z, hTp] at e
        cases e
        cases hd
    have md : Mod K mg (hidT sh.heap H0) := ⟨inK, spaces hns, ⟨mb, spaces hbl, hboot⟩, hlim.elim fun mc q => ⟨mc, spaces q.1, q.2⟩⟩
    have en : Env0 P w K mg (hidT sh.heap H0) callerA [] sh H0 :=
      ⟨rfl, md, fun c ob z => of_hidT z, Nat.le_of_eq (hidT_size _ _), trivial, fun c hc => absurd (show c ∈ ([] : List Addr) from hc) (by simp), ok, .of_eq hgen⟩
    have go := (F _ inK (spaces hns) tb).run callerA [] sh H0 ⟨[.ref a], []⟩ [.ref a] [.ref a] _ _ ⟨room, rfl⟩ en (hbind sh (.ref a)) (.cons rfl .nil) (hsp H0 tabs sq)
    refine codeAny_mono go fun r s' h => ?_
    match r, h with
    | .error e, h => exact (hCX H0 e s' h).elim
    | .ok .next, h => exact h.elim
    | .ok .brk, h => exact h.elim
    | .ok .cont, h => exact h.elim
    | .ok (.ret u), ⟨v, H1, os, bare, un, ok1, rv, q⟩ =>
      have q : v = .bl true := q
      subst q
      obtain rfl : u = Value.bool true := rv
      have kept : ∀ c ob, c ∉ cs.map (·.2) → sh.heap.get? c = some ob → s'.heap.get? c = some ob := by
        intro c ob nc z
        cases at0 : H0 c with
        | none => exact un.keep c ob z at0 (by intro y; exact absurd (show c ∈ ([] : List Addr) from y) (by simp)) (by simp)
        | some t =>
          rcases only c with y | y | ⟨o2, ys, y⟩
          · rw [at0] at y; cases y
          · exact absurd y nc
          · have y2 := un.frzs c o2 _ y
            have z1 := (ok c _ y).1
            rw [z] at z1
            cases z1
            exact (ok1 c _ y2).1
      have grown : ∀ p ∈ cs, ∃ more : Array Value, s'.heap.get? p.2 = some { cls := .none, data := .fields more } := fun p hp => by
        obtain ⟨more, z⟩ := un.tbls p.2 #[] (tabs p hp)
        exact ⟨_, ok1 p.2 _ z⟩
      refine ⟨rfl, ⟨fun c ob z => ?_, fun c ob z => ?_⟩, os, bare⟩
      · by_cases hc : c ∈ cs.map (·.2)
        · obtain ⟨p, hp, rfl⟩ := List.mem_map.mp hc
          obtain ⟨more, hm⟩ := grown p hp
          rw [hT p hp] at z
          cases z
          exact .inr (.inl ⟨((C p hp).tab (hT p hp)).isCodeTable, rfl, #[], more, rfl, by rw [Array.empty_append]; exact hm⟩)
        · exact .inl (kept c ob hc z)
      · by_cases hc : c ∈ cs.map (·.2)
        · obtain ⟨p, hp, rfl⟩ := List.mem_map.mp hc
          obtain ⟨more, hm⟩ := grown p hp
          exact ⟨_, hm⟩
        · exact ⟨ob, kept c ob hc z⟩
  cases look : K.lookup a with
  | some ob =>
    have z := KH a ob look
    rw [here] at z
    cases z
    let H1 : Hp := fun c => if c ∈ cs.map (·.2) then some (.tbl #[]) else none
    refine main H1 (fun p hp => if_pos (inT p hp)) (fun c => ?_) (Or.inr ⟨_, vs.toArray, _, look, rfl, rfl, rfl, ?_, ?_⟩) (fun c u y => ?_) (fun c y => ?_) (fun y => absurd (if_neg scriptT) y)
    · by_cases hc : c ∈ cs.map (·.2)
      · exact Or.inr (Or.inl hc)
      · exact Or.inl (if_neg hc)
    · rw [List.size_toArray, same]; exact short
    · simpa using vals
    · by_cases hc : c ∈ cs.map (·.2)
      · have y' := (if_pos hc).symm.trans y
        cases y'
        exact tabAt hc
      · have y' := (if_neg hc).symm.trans y
        cases y'
    · by_cases hc : c ∈ cs.map (·.2)
      · exact Or.inr hc
      · exact absurd (if_neg hc) y
  | none =>
    let ob : Obj := { cls := .type "list", data := .seq vs.toArray }
    let H1 : Hp := fun c => if c = a then some (.frz ob (.lst (ns.map V.int))) else if c ∈ cs.map (·.2) then some (.tbl #[]) else none
    refine main H1 (fun p hp => (if_neg (show ¬ p.2 = a from fun z => scriptT (by rw [← z]; exact inT p hp))).trans (if_pos (inT p hp))) (fun c => ?_) (Or.inl (Or.inr ⟨ob, if_pos rfl⟩)) (fun c u y => ?_) (fun c y => ?_) fun _ => look
    · by_cases hc : c = a
      · exact Or.inr (Or.inr ⟨_, _, if_pos hc⟩)
      · by_cases hc2 : c ∈ cs.map (·.2)
        · exact Or.inr (Or.inl hc2)
        · exact Or.inl ((if_neg hc).trans (if_neg hc2))
    · by_cases hc : c = a
      · have y' := (if_pos hc).symm.trans y
        cases y'
        subst hc
        exact ⟨here, by rw [List.length_map]; exact short, vs, _, vals, here⟩
      · have y1 := (if_neg hc).symm.trans y
        by_cases hc2 : c ∈ cs.map (·.2)
        · have y' := (if_pos hc2).symm.trans y1
          cases y'
          exact tabAt hc2
        · have y' := (if_neg hc2).symm.trans y1
          cases y'
    · by_cases hc : c = a
      · exact Or.inl hc
      · by_cases hc2 : c ∈ cs.map (·.2)
        · exact Or.inr hc2
        · exact absurd ((if_neg hc).trans (if_neg hc2)) y
/-- the end of a law with lambdas: cs, the makers' code objects and their tables -/
theorem walk_TG {l : PySem.W.OpenLaw} {n k : Nat} {q : Program} {loose : List Str} {XP : (Str → Option Value) → Heap → Prop} {YP : World → Heap → Prop} {d : DefRec} {K : Params → PySem.W.Frag} {CX : World → CXT} {x : Str}
    (hn : l.most = some n) (hn2 : n ≤ sizeLine) (hdf : d.params.defaults = []) (room : Room k callerA)
    (hY : ∀ (w : World) (h : Heap), YP w h → (K w.params).In h)
    (F : ∀ (w : World) (mg : Str → Option Value) (fa : Addr) (h : Heap), YP w h → (K w.params).In h → h.Ns mainGlobals mg → mg d.name = some (.ref fa) →
      ∃ (fd : FuncData) (cs : List (Addr × Addr)) (sp : Sp), (∀ p ∈ cs, h.get? p.2 = some { cls := .none, data := .fields #[] }) ∧ (∀ p ∈ cs, (K w.params).lookup p.2 = none) ∧ (∀ p ∈ cs, PySem.W.CodeHd h p.1 p.2) ∧
        (∀ (s : Shared) (u : Value), BindsTo s fd ⟨[u], []⟩ [(x, u)]) ∧
        (∀ (H0 : Hp) (a : Addr) (ns : List Int), ns.length ≤ n → (∀ p ∈ cs, H0 p.2 = some (.tbl #[])) → SqL (K w.params) H0 a (ns.map V.int) → sp [.ref a] H0 (fun v _ => v = .bl true) fun _ _ _ => False) ∧
        ∀ base : Heap, (K w.params).In base → base.Ns mainGlobals mg → (∀ p ∈ cs, TabB base mg p.1 p.2) → FnG l.prog w (K w.params) mg base (CX w) k fa fd [x] sp)
    (hCX : ∀ (w : World) (H0 : Hp) (s : Shared) (e : Value) (s' : Shared), CX w [] H0 s (fun _ _ _ => False) e s' → False) :
    PySem.W.WalkO q loose XP YP l.row.toRowW d [] (fun f vs => PySem.call f vs) := by
  refine Att.attach_callB hn hdf fun w s₀ s₁ mg mb fa o pm cd doc a vs ns G Y ho hd hcd hmg hobj hints hlen hbits hg => ?_
  have KH := hY w _ Y
  obtain ⟨fd, cs, sp, hT, nT, C, hb, hsp, hF⟩ := F w mg fa _ Y KH G.T.g hmg
  exact law_callTG KH G.T.g G.T.b G.T.builtins G.T.nolimit hg hT nT C G.T.bmain hobj hints (Nat.le_trans hlen hn2) room hF hb (fun H0 hH hS => hsp H0 a ns hlen hH hS) fun H0 e s' => hCX w H0 s₁ e s'
/-- the tables as they are told at the law's start -/
def gTab (T : List (Addr × Str)) : G := fun a => (T.find? fun p => decide (p.1 = a)).map fun p => .tab p.2
theorem law_spT {K : PySem.W.Frag} {sp : FSp} {H : Hp} {a : Addr} {ns : List Int} {T : List (Addr × Str)} (hT : ∀ p ∈ T, H p.1 = some (.tbl #[])) (hS : SqL K H a (ns.map V.int)) (h : sp [.lst (ns.map .int)] (gTab T) (fun d _ => d = .bl true) (fun _ _ => False)) :
    lift K sp [.ref a] H (fun v _ => v = .bl true) fun _ _ _ => False := by
  let F : Hp := fun b => if (gTab T b).isSome = true then none else H b
  have tabs : ∀ b o, gTab T b = some o → H b = some (.tbl #[]) ∧ ∃ q, o = .tab q := by
    intro b o e
    unfold gTab at e
    cases hf : T.find? (fun p => decide (p.1 = b)) with
    | none => rw [hf] at e; cases e
    | some p =>
      rw [hf] at e
      cases e
      have h1 := List.find?_some hf
      have h2 := List.mem_of_find?_eq_some hf
      have : p.1 = b := by simpa using h1
      rw [← this]
      exact ⟨hT p h2, _, rfl⟩
  have ff : Same F H := fun b o e => by
    show H b = some o
    have e : (if (gTab T b).isSome = true then none else H b) = some o := e
    split at e
    · cases e
    · exact e
  have hS' : SqL K F a (ns.map V.int) := by
    rcases hS with (z | ⟨o, z⟩) | z
    · refine .inl (.inl ?_)
      show (if (gTab T a).isSome = true then none else H a) = _
      rw [if_neg, z]
      intro y
      obtain ⟨o, y⟩ := Option.isSome_iff_exists.mp y
      rw [(tabs a o y).1] at z
      cases z
    · refine .inl (.inr ⟨o, ?_⟩)
      show (if (gTab T a).isSome = true then none else H a) = _
      rw [if_neg, z]
      intro y
      obtain ⟨o, y⟩ := Option.isSome_iff_exists.mp y
      rw [(tabs a o y).1] at z
      cases z
    · exact .inr z
  refine ⟨F, gTab T, _, _, _, .cons (.lst hS' (RepL.of_ints ns)) .nil, ?_, h, fun v H' F' g' d _ r e => ?_, fun _ _ _ _ _ _ _ _ z => z⟩
  · refine ⟨ff, Same.refl F, fun a o e => .inl ⟨o, e⟩, fun a o e => ⟨o, e⟩, fun a o e _ => e, fun b o e => ?_, fun i s e => by simp at e, fun i j a ds es e => by simp at e, rfl⟩
    obtain ⟨h1, q, rfl⟩ := tabs b o e
    refine ⟨⟨#[], h1, True.intro, fun pos cv hc => ?_⟩, ?_, .inl ⟨_, e⟩⟩
    · have z : codeAmong pos [] = some cv := hc
      simp [codeAmong] at z
    · show (if (gTab T b).isSome = true then none else H b) = none
      rw [if_pos (by rw [e]; rfl)]
  · subst e
    cases r
    rfl
end DL

set_option Elab.async false
set_option linter.all false
set_option maxRecDepth 100000
set_option maxHeartbeats 1000000
namespace DL
open PySem PySem.Spec PyProof.Rows L2 LamX
/-! ### defs that make lambdas; their callee as one fact -/
structure MetK (K : PySem.W.Frag) (mg : Str → Option Value) (x : Str) (st : Stmt) (a : Str) : Prop where
  ex : ∃ (g0 : Addr) (fd : FuncData), mg x = some (.ref g0) ∧ Fun K x x st g0 fd ∧ L2.Binds K fd [a] []
def hdsOf (st : Stmt) : List ExceptHandler := match defBody st with
  | .Try _ hs _ _ _ :: _ => hs
  | _ => []
def restOf (st : Stmt) : List Stmt := match defBody st with
  | _ :: r => r
  | _ => []
theorem names_of {X : Cx} {x : Str} {c : Addr} (h : X.mg x = some (.ref c)) (hg : Gl X x) (hd : (x == ("__debug__" : Str)) = false := by decide) : Names X x (.ref c) := ⟨hg, hd, .inl h⟩
theorem sx_of {K : PySem.W.Frag} {l : List ((Addr × Addr) × Bool)} (h : ∀ p ∈ l, PySem.W.exmOne K (.ref p.1.1) (.ref p.1.2) = some p.2) : ∀ a c b, l.lookup (a, c) = some b → PySem.W.exmOne K (.ref a) (.ref c) = some b := by
  intro a c b e
  have : ((a, c), b) ∈ l := by
    clear h
    induction l with
    | nil => cases e
    | cons p l ih =>
      rw [List.lookup] at e
      split at e
      · rename_i z
        have z := eq_of_beq z
        cases e
        rw [z]
        exact List.mem_cons_self
      · exact List.mem_cons_of_mem _ (ih e)
  exact h _ this
section
variable {X : Cx}
theorem ev_lamM {P c : Addr} {q x a : Str} {st : Stmt} {Ng : List Str} (k : Nat) {S : Addr → Addr → Option Bool} {h₀ : ExceptHandler} {hds : List ExceptHandler} {l : List (Addr × SM)} {rest : List Stmt} {mr : SM} {mb : EM D} {params : Arguments} {body : Expr} {scope : Scope} {p lpos pos p1 p2 q1 q2 : Pos}
    (hS : ∀ a c b, S a c = some b → PySem.W.exmOne X.K (.ref a) (.ref c) = some b) (M : MetK X.K X.mg x st a) (hg : Gl X x) (Sg : FnScope Ng [a] (defScope st)) (hNg : Ng[0]? = some a) (hva : Vis (defScope st) a)
    (hbd : defBody st = .Try [.Expr (.Call (.Name a p1) [] [] p2) q1] (h₀ :: hds) [] [] q2 :: rest)
    (hh : ∀ (g0 : Addr) (cdv : Value) (A : Around) (outer : List Env) (s : Shared) (H : Hp), HdsD (cxOf (L2.CX X.prog X.w) X.prog X.w X.K X.mg X.base Ng x (defScope st) g0 cdv A outer s H (fun _ _ _ => False)) (hdsOf st) l)
    (hrest : ∀ (g0 : Addr) (cdv : Value) (A : Around) (outer : List Env) (s : Shared) (H : Hp), SVs (cxOf (L2.CX X.prog X.w) X.prog X.w X.K X.mg X.base Ng x (defScope st) g0 cdv A outer s H (fun _ _ _ => False)) (restOf st) mr)
    (TB : TabB X.base X.mg c P) (hcode : X.env.code = .ref c) (hq : q = X.env.qual ++ "<lambda>") (hr : RoomG (k + 3) X.A) (Ls : LamS X.env.scope scope) (hdef : defaultsOf params X.env = ([], []))
    (hbind : ∀ (q : Str) (cl : List (Str × Addr)) (pm cv ctv : Value), bindArgs (PySem.W.kla_fn "<lambda>" q params body scope cl pm cv ctv) ⟨[], []⟩ = pure [])
    (hbody : ∀ (A : Around) (outer : List Env) (s : Shared) (H : Hp) (E : XK) (f c' : Addr), RoomG k (A.deeper (lamEnv X scope s.heap.objs.size f c')) → EV (lamCx X A outer s H E scope f c') body mb)
    (hdb : (x == ("__debug__" : Str)) = false := by decide) (hd : (a == ("__debug__" : Str)) = false := by decide) (hcd : (a == ("__classdict__" : Str)) = false := by decide) :
    EV X (.Call (.Name x p) [.Lambda params body scope lpos] [] pos) (eLam P q Ng S l mr mb) := by
  obtain ⟨g0, fd, hm, F, hb⟩ := M.ex
  have e1 : hdsOf st = h₀ :: hds := by unfold hdsOf; rw [hbd]
  have e2 : restOf st = rest := by unfold restOf; rw [hbd]
  rw [e1] at hh
  rw [e2] at hrest
  exact ev_lam hS hg hm F hb Sg hNg hva hbd (hh g0) (hrest g0) TB hcode hq hr Ls hdef hbind hbody hdb hd hcd
end
section
variable {P : Program} {w : World} {K : PySem.W.Frag} {mg : Str → Option Value} {base : Heap}
theorem Fun.okGC {c : Addr} {x qual : Str} {st : Stmt} {f : Addr} {fd : FuncData} {N ps : List Str} {k : Nat} {sp : Sp} (F : Fun K x qual st f fd) (hc : fd.code = .ref c)
    (S : FnScope N ps (defScope st)) (len : ∀ xs H0 Q0 E0, sp xs H0 Q0 E0 → xs.length = ps.length)
    (hbody : ∀ (B : Around) (fr : List Env) (sh : Shared) (H0 : Hp) (xs : List V) (Q0 : VK) (E0 : XK),
      RoomG k (B.deeper (envOfC qual (defScope st) sh.heap.objs.size f (.ref c))) → sp xs H0 Q0 E0 →
      ∃ t, PSs (cxOf (L2.CX P w) P w K mg base N qual (defScope st) f (.ref c) B fr sh H0 E0) (defBody st) t ∧
        t { nx := fun _ H1 => Q0 .non H1, rt := Q0 } (start N xs) H0) : FnG P w K mg base (L2.CX P w) (k + 1) f fd ps sp := by
  obtain ⟨oc, od, kV, doc, pm, an, cdv, ct, osl, rfl, lk, hcd⟩ := F.ex
  have e : cdv = .ref c := hc
  subst e
  exact fnG_of lk hcd S len fun B fr sh H0 xs Q0 E0 hr => hbody B fr sh H0 xs Q0 E0 hr
theorem fn_okC {c : Addr} {x qual : Str} {st : Stmt} {f : Addr} {fd : FuncData} {N ps : List Str} {k : Nat} {sp : FSp} (F : Fun K x qual st f fd) (hc : fd.code = .ref c) (S : FnScope N ps (defScope st))
    (len : ∀ ds g Q E, sp ds g Q E → ds.length = ps.length)
    (hbody : ∀ (A : Around) (outer : List Env) (s : Shared) (H : Hp) (E : XK), RoomG k (A.deeper (envOfC qual (defScope st) s.heap.objs.size f (.ref c))) →
      ∃ m : SM, SVs (cxOf (L2.CX P w) P w K mg base N qual (defScope st) f (.ref c) A outer s H E) (defBody st) m ∧
        ∀ ds g Q E, sp ds g Q E → m { nx := fun _ g' => Q .non g', rt := Q, g0 := g } (fun x _ g' => E x g') (startR N ds) g) : FnG P w K mg base (L2.CX P w) (k + 1) f fd ps (lift K sp) := by
  refine Fun.okGC F hc S (fun vs H Q E h => ?_) (fun A outer s H vs Q E hr h => ?_)
  · obtain ⟨F, g, ds, QD, ED, r, R, h, _⟩ := h
    rw [r.length]
    exact len _ _ _ _ h
  · obtain ⟨Fz, g, ds, QD, ED, r, R, h, qr, qe⟩ := h
    obtain ⟨m, hS, hm⟩ := hbody A outer s H E hr
    have lk : Lk (cxOf (L2.CX P w) P w K mg base N qual (defScope st) f (.ref c) A outer s H E) ⟨K, H, g, Fz⟩ (fun x _ g' => ED x g') :=
      Takes.imp (takes_of (E := E) rfl rfl rfl rfl) fun c d σ H' ⟨F', ρ', g', x, R', xr, z⟩ => qe c d H' F' g' x R'.forget xr z
    refine ⟨_, hS ⟨K, H, g, Fz⟩ (fun x _ g' => ED x g') rfl lk, Fz, startR N ds, g, _, R.start r, hm ds g QD ED h, ?_⟩
    refine ⟨fun σ' H' F' ρ' g' e R' w' => qr _ H' F' g' _ R'.forget .non w', fun v σ' H' F' ρ' g' d R' r w' => qr v H' F' g' d R'.forget r w', fun _ _ _ _ _ _ _ z => z.elim, fun _ _ _ _ _ _ _ z => z.elim, rfl⟩
theorem def_okC {c : Addr} {x qual : Str} {st : Stmt} {f : Addr} {fd : FuncData} {N ps : List Str} {k : Nat} {sp : FSp} (F : Fun K x qual st f fd) (hc : fd.code = .ref c) (S : FnScope N ps (defScope st)) (hm : mg x = some (.ref f)) (hb : Binds K fd ps [])
    (len : ∀ ds g Q E, sp ds g Q E → ds.length = ps.length)
    (hbody : ∀ (A : Around) (outer : List Env) (s : Shared) (H : Hp) (E : XK), RoomG k (A.deeper (envOfC qual (defScope st) s.heap.objs.size f (.ref c))) →
      ∃ m : SM, SVs (cxOf (L2.CX P w) P w K mg base N qual (defScope st) f (.ref c) A outer s H E) (defBody st) m ∧
        ∀ ds g Q E, sp ds g Q E → m { nx := fun _ g' => Q .non g', rt := Q, g0 := g } (fun x _ g' => E x g') (startR N ds) g) : Def P w K mg base x (k + 1) sp :=
  ⟨f, fd, ps, fn_okC F hc S len hbody, hm, F.kp, hb⟩
end
end DL

set_option Elab.async false
set_option linter.all false
set_option maxRecDepth 100000
set_option maxHeartbeats 4000000
namespace GEN
open PySem PySem.Spec PyProof.Rows L2 DL
def topS (i : Nat) : Stmt := PySem.Challenge.pw_halvesmeet_k07_errors_of_deeds.main.body.getD i (.Pass ⟨0, 0, 0, 0⟩)

abbrev C_InvalidDeed : Addr := 37
abbrev C_InvalidState : Addr := 49
abbrev O_law : Addr := 281
abbrev P_law : Addr := 279
abbrev O__law_right : Addr := 276
abbrev P__law_right : Addr := 274
abbrev TABS : List (Addr × Str) := [(P_law, "law.<locals>.<lambda>"), (P__law_right, "_law_right.<locals>.<lambda>")]
abbrev XL : List ((Addr × Addr) × Bool) := [((C_InvalidDeed, C_InvalidState), false), ((C_InvalidDeed, C_InvalidDeed), true), ((C_InvalidState, C_InvalidState), true), ((C_InvalidState, C_InvalidDeed), false)]
abbrev SX : Addr → Addr → Option Bool := fun a c => XL.lookup (a, c)
abbrev s__law_met : Stmt := topS 57
abbrev N__law_met : List Str := ["_law_call"]
theorem sc__law_met : FnScope N__law_met ["_law_call"] (defScope s__law_met) := ⟨rfl, rfl, rfl, by decide +kernel, rfl, by decide +kernel, by decide +kernel⟩
def l__law_met : List (Addr × SM) := [(C_InvalidState, (sRet (eTup (esCons (eC (.str "refused")) (esCons (eC (.str "state")) esNil))))), (C_InvalidDeed, (sRet (eTup (esCons (eC (.str "refused")) (esCons (eC (.str "deed")) esNil)))))]
def mr__law_met : SM := (sRet (eTup (esCons (eC (.str "fine")) (esCons (eC (.str "")) esNil))))
abbrev c_DEED_WORDS : D := (.tup [(.str "put"), (.str "drop"), (.str "get"), (.str "add"), (.str "swap"), (.str "list"), (.str "all"), (.str "circle")])
abbrev c_LOT_WORDS : D := (.tup [(.str "put"), (.str "drop"), (.str "get"), (.str "add"), (.str "swap")])
abbrev c_READ_WORDS : D := (.tup [(.str "get"), (.str "list")])
abbrev c_REFUSALS : D := (.tup [(.tup [(.str "kind")]), (.tup [(.str "bound")]), (.tup [(.str "full")])])
structure Tx (K : PySem.W.Frag) (mg : Str → Option Value) : Prop where
  b_abs : mg "abs" = none
  b_all : mg "all" = none
  b_bool : mg "bool" = none
  b_dict : mg "dict" = none
  b_enumerate : mg "enumerate" = none
  b_int : mg "int" = none
  b_isinstance : mg "isinstance" = none
  b_len : mg "len" = none
  b_max : mg "max" = none
  b_min : mg "min" = none
  b_range : mg "range" = none
  b_sorted : mg "sorted" = none
  b_str : mg "str" = none
  b_tuple : mg "tuple" = none
  b_zip : mg "zip" = none
  k_DEED_WORDS : GCon K mg "DEED_WORDS" c_DEED_WORDS
  k_GREATEST : ∃ t, mg "GREATEST" = some (.int 1000000000000000000000000000000000000000000000000000000000000 t)
  k_LEAST : ∃ t, mg "LEAST" = some (.int 1000000000000 t)
  k_LOT_WORDS : GCon K mg "LOT_WORDS" c_LOT_WORDS
  k_MAX_CIRCLE : ∃ t, mg "MAX_CIRCLE" = some (.int 7 t)
  k_MAX_HOUSES : ∃ t, mg "MAX_HOUSES" = some (.int 9 t)
  k_MAX_KEY : ∃ t, mg "MAX_KEY" = some (.int 8 t)
  k_MAX_KEYS : ∃ t, mg "MAX_KEYS" = some (.int 24 t)
  k_MAX_LOT : ∃ t, mg "MAX_LOT" = some (.int 6 t)
  k_MAX_SIGNS : ∃ t, mg "MAX_SIGNS" = some (.int 12 t)
  k_MAX_SUM : ∃ t, mg "MAX_SUM" = some (.int 999999999999 t)
  k_READ_WORDS : GCon K mg "READ_WORDS" c_READ_WORDS
  k_REFUSALS : GCon K mg "REFUSALS" c_REFUSALS
  k_SMALL_LETTERS : ∃ t, mg "SMALL_LETTERS" = some (.str "abcdefghijklmnopqrstuvwxyz" t)
  k_STRING_SIGNS : ∃ t, mg "STRING_SIGNS" = some (.str "abcdefghijklmnopqrstuvwxyz0123456789 " t)
  xm : ∀ p ∈ XL, PySem.W.exmOne K (.ref p.1.1) (.ref p.1.2) = some p.2
  n_InvalidDeed : mg "InvalidDeed" = some (.ref C_InvalidDeed)
  n_InvalidState : mg "InvalidState" = some (.ref C_InvalidState)
  rai_InvalidDeed : RaiC K C_InvalidDeed
  rai_InvalidState : RaiC K C_InvalidState
  met__law_met : MetK K mg "_law_met" s__law_met "_law_call"
section
variable {P : Program} {w : World} {K : PySem.W.Frag} {mg : Str → Option Value} {base : Heap}
theorem hds__law_met (T : Tx K mg) {cdv : Value} {A : Around} {outer : List Env} {s : Shared} {H : Hp} {E : XK} {f : Addr} : HdsD (cxOf (L2.CX P w) P w K mg base N__law_met "_law_met" (defScope s__law_met) f cdv A outer s H E) (hdsOf s__law_met) l__law_met :=
  (.cons (names_of T.n_InvalidState (by rfl)) (fun _ _ _ => (svs_one (sv_ret (ev_tup (es_cons ev_str (es_cons ev_str es_nil)))))) (.cons (names_of T.n_InvalidDeed (by rfl)) (fun _ _ _ => (svs_one (sv_ret (ev_tup (es_cons ev_str (es_cons ev_str es_nil)))))) .nil))
theorem rest__law_met (T : Tx K mg) {cdv : Value} {A : Around} {outer : List Env} {s : Shared} {H : Hp} {E : XK} {f : Addr} : SVs (cxOf (L2.CX P w) P w K mg base N__law_met "_law_met" (defScope s__law_met) f cdv A outer s H E) (restOf s__law_met) mr__law_met :=
  (svs_one (sv_ret (ev_tup (es_cons ev_str (es_cons ev_str es_nil)))))
abbrev s__law_dice : Stmt := topS 54
abbrev N__law_dice : List Str := ["_law_script", "_law_spot", "_law_cell", "_law_left"]
theorem sc__law_dice : FnScope N__law_dice ["_law_script", "_law_spot"] (defScope s__law_dice) := ⟨rfl, rfl, rfl, by decide +kernel, rfl, by decide +kernel, by decide +kernel⟩
def m__law_dice  : SM :=
  (sSeq (sSet 2 (eIf (tB1 (e2 ltD (eVar 1) (eL lenD2 (esCons (eVar 0) esNil)))) (eL intD (esCons (e2 ixD (eVar 0) (eVar 1)) esNil)) (e2 addD (e2 mulD2 (eC (.int 97)) (eVar 1)) (eC (.int 61)))))
    (sSeq (sSet 3 (e2 modI (eL max2D (esCons (eC (.int 0)) (esCons (e2 subI (eL absD (esCons (eVar 2) esNil)) (eC (.int 10000000000000000))) esNil))) (eC (.int 1000000000000000000000000000000000000000000000000000000000000000000000000000000000000000000000000000000000000000000000))))
    (sRetDice (nLst (esCons (eVar 3) (esCons (e2 addD (e2 addD (e2 addD (e2 mulD2 (e2 modI (eL absD (esCons (eVar 2) esNil)) (eC (.int 1152921504606846803))) (eC (.int 89))) (e2 mulD2 (eC (.int 1019)) (eVar 1))) (e2 mulD2 (eC (.int 47)) (eL intD (esCons (e2 ltD (eVar 2) (eC (.int 0))) esNil)))) (eC (.int 31))) (esCons (eC (.int 0)) esNil)))))))
theorem der__law_dice (T : Tx K mg)  {cdv : Value} {A : Around} {outer : List Env} {s : Shared} {H : Hp} {E : XK} {f : Addr}
    (hr : RoomG 0 (A.deeper (envOfC "_law_dice" (defScope s__law_dice) s.heap.objs.size f cdv))) :
    SVs (cxOf (L2.CX P w) P w K mg base N__law_dice "_law_dice" (defScope s__law_dice) f cdv A outer s H E) (defBody s__law_dice) (m__law_dice ) :=
  (svs_cons (sv_set (i := 2) sc__law_dice.nd (ev_if (et_cmp os_ltD (ev_var (i := 1)) (ev_callB cs_len2 (by rfl) T.b_len PySem.boot_len (es_cons (ev_var (i := 0)) es_nil))) (ev_callTy cs_int (by rfl) T.b_int PyProof.Rows.boot_int (es_cons (ev_ix (ev_var (i := 0)) (ev_var (i := 1))) es_nil)) (ev_bin os_addD (ev_bin os_mulD2 ev_int (ev_var (i := 1))) ev_int)))
    (svs_cons (sv_set (i := 3) sc__law_dice.nd (ev_bin os_mod (ev_callB (cs_max2 rfl) (by rfl) T.b_max PyProof.Rows.boot_max (es_cons ev_int (es_cons (ev_bin os_sub (ev_callB cs_abs (by rfl) T.b_abs (by decide +kernel) (es_cons (ev_var (i := 2)) es_nil)) (ev_fold (.int 10000000000000000) (ev_bin os_pow ev_int ev_int) (by intro ρ g Q E q; simpa using q))) es_nil))) (ev_fold (.int 1000000000000000000000000000000000000000000000000000000000000000000000000000000000000000000000000000000000000000000000) (ev_bin os_mulD2 (ev_fold (.int 1000000000000000000000000000000000000000000000000000000000) (ev_bin os_pow ev_int ev_int) (by intro ρ g Q E q; simpa using q)) (ev_fold (.int 1000000000000000000000000000000000000000000000000000000000000) (ev_bin os_pow ev_int ev_int) (by intro ρ g Q E q; simpa using q))) (by intro ρ g Q E q; simpa using q))))
    (svs_one (sv_retDice (en_lst (es_cons (ev_var (i := 3)) (es_cons (ev_bin os_addD (ev_bin os_addD (ev_bin os_addD (ev_bin os_mulD2 (ev_bin os_mod (ev_callB cs_abs (by rfl) T.b_abs (by decide +kernel) (es_cons (ev_var (i := 2)) es_nil)) ev_int) ev_int) (ev_bin os_mulD2 ev_int (ev_var (i := 1)))) (ev_bin os_mulD2 ev_int (ev_callTy cs_int (by rfl) T.b_int PyProof.Rows.boot_int (es_cons (ev_cmp os_ltD (ev_var (i := 2)) ev_int) es_nil)))) ev_int) (es_cons ev_int es_nil))))))))
abbrev s__law_roll : Stmt := topS 55
abbrev N__law_roll : List Str := ["_law_dice_here", "_law_most", "_law_found", "_law_one", "_law_two"]
theorem sc__law_roll : FnScope N__law_roll ["_law_dice_here", "_law_most"] (defScope s__law_roll) := ⟨rfl, rfl, rfl, by decide +kernel, rfl, by decide +kernel, by decide +kernel⟩
def m__law_roll  : SM :=
  (sSeq (sIf (tB1 (e2 gtD (eDg 0 0) (eC (.int 0)))) (sSeq (sSet 2 (e2 modI (eL intD (esCons (eDg 0 0) esNil)) (eVar 1)))
    (sSeq (sDs 0 0 (e2 fdivI (eDg 0 0) (eVar 1)))
    (sRet (eVar 2)))) sNext)
    (sSeq (sDs 0 2 (e2 addD (eDg 0 2) (eC (.int 1))))
    (sSeq (sSet 3 (e2 modI (eL intD (esCons (e2 addD (eDg 0 1) (e2 mulD2 (eC (.int 71593063)) (eDg 0 2))) esNil)) (eC (.int 2305843009213693487))))
    (sSeq (sSet 4 (e2 addD (e2 mulD2 (e2 modI (eL intD (esCons (e2 addD (e2 mulD2 (eVar 3) (eVar 3)) (e2 mulD2 (eC (.int 89)) (eDg 0 2))) esNil)) (eC (.int 2305843009213693253))) (eC (.int 6700417))) (eVar 3)))
    (sRet (e2 modI (eL intD (esCons (e2 fdivI (eVar 4) (eC (.int 65551))) esNil)) (eVar 1)))))))
theorem der__law_roll (T : Tx K mg)  {cdv : Value} {A : Around} {outer : List Env} {s : Shared} {H : Hp} {E : XK} {f : Addr}
    (hr : RoomG 0 (A.deeper (envOfC "_law_roll" (defScope s__law_roll) s.heap.objs.size f cdv))) :
    SVs (cxOf (L2.CX P w) P w K mg base N__law_roll "_law_roll" (defScope s__law_roll) f cdv A outer s H E) (defBody s__law_roll) (m__law_roll ) :=
  (svs_cons (sv_if (et_cmp os_gtD (ev_dget (i := 0)) ev_int) (svs_cons (sv_set (i := 2) sc__law_roll.nd (ev_bin os_mod (ev_callTy cs_int (by rfl) T.b_int PyProof.Rows.boot_int (es_cons (ev_dget (i := 0)) es_nil)) (ev_var (i := 1))))
    (svs_cons (sv_dset (i := 0) (ev_bin os_fdiv (ev_dget (i := 0)) (ev_var (i := 1))))
    (svs_one (sv_ret (ev_var (i := 2)))))) svs_nil)
    (svs_cons (sv_dset (i := 0) (ev_bin os_addD (ev_dget (i := 0)) ev_int))
    (svs_cons (sv_set (i := 3) sc__law_roll.nd (ev_bin os_mod (ev_callTy cs_int (by rfl) T.b_int PyProof.Rows.boot_int (es_cons (ev_bin os_addD (ev_dget (i := 0)) (ev_bin os_mulD2 ev_int (ev_dget (i := 0)))) es_nil)) ev_int))
    (svs_cons (sv_set (i := 4) sc__law_roll.nd (ev_bin os_addD (ev_bin os_mulD2 (ev_bin os_mod (ev_callTy cs_int (by rfl) T.b_int PyProof.Rows.boot_int (es_cons (ev_bin os_addD (ev_bin os_mulD2 (ev_var (i := 3)) (ev_var (i := 3))) (ev_bin os_mulD2 ev_int (ev_dget (i := 0)))) es_nil)) ev_int) ev_int) (ev_var (i := 3))))
    (svs_one (sv_ret (ev_bin os_mod (ev_callTy cs_int (by rfl) T.b_int PyProof.Rows.boot_int (es_cons (ev_bin os_fdiv (ev_var (i := 4)) ev_int) es_nil)) (ev_var (i := 1)))))))))
abbrev s__law_pick : Stmt := topS 56
abbrev N__law_pick : List Str := ["_law_dice_here", "_law_items"]
theorem sc__law_pick : FnScope N__law_pick ["_law_dice_here", "_law_items"] (defScope s__law_pick) := ⟨rfl, rfl, rfl, by decide +kernel, rfl, by decide +kernel, by decide +kernel⟩
def m__law_pick (sp__law_roll : FSp) : SM :=
  (sRet (e2 ixD (eVar 1) (eCall sp__law_roll (esCons (eVar 0) (esCons (eL lenD2 (esCons (eVar 1) esNil)) esNil)))))
theorem der__law_pick (T : Tx K mg) {sp__law_roll : FSp} (D__law_roll : Def P w K mg base "_law_roll" 1 sp__law_roll) {cdv : Value} {A : Around} {outer : List Env} {s : Shared} {H : Hp} {E : XK} {f : Addr}
    (hr : RoomG 1 (A.deeper (envOfC "_law_pick" (defScope s__law_pick) s.heap.objs.size f cdv))) :
    SVs (cxOf (L2.CX P w) P w K mg base N__law_pick "_law_pick" (defScope s__law_pick) f cdv A outer s H E) (defBody s__law_pick) (m__law_pick sp__law_roll) :=
  (svs_one (sv_ret (ev_ix (ev_var (i := 1)) (ev_call D__law_roll (hr.mono (by decide)) (by rfl) (es_cons (ev_var (i := 0)) (es_cons (ev_callB cs_len2 (by rfl) T.b_len PySem.boot_len (es_cons (ev_var (i := 1)) es_nil)) es_nil))))))
abbrev s_has_word : Stmt := topS 33
abbrev N_has_word : List Str := ["value", "words"]
theorem sc_has_word : FnScope N_has_word ["value", "words"] (defScope s_has_word) := ⟨rfl, rfl, rfl, by decide +kernel, rfl, by decide +kernel, by decide +kernel⟩
def m_has_word  : SM :=
  (sRet (eAnd (e1 (isiD .tuple) (eVar 0)) (eAnd (e2 neD2 (eVar 0) (eTup esNil)) (eAnd (e1 (isiD .str) (e2 ixD (eVar 0) (eC (.int 0)))) (e2 inD (e2 ixD (eVar 0) (eC (.int 0))) (eVar 1))))))
theorem der_has_word (T : Tx K mg)  {cdv : Value} {A : Around} {outer : List Env} {s : Shared} {H : Hp} {E : XK} {f : Addr}
    (hr : RoomG 0 (A.deeper (envOfC "has_word" (defScope s_has_word) s.heap.objs.size f cdv))) :
    SVs (cxOf (L2.CX P w) P w K mg base N_has_word "has_word" (defScope s_has_word) f cdv A outer s H E) (defBody s_has_word) (m_has_word ) :=
  (svs_one (sv_ret (ev_and (ev_isi .tuple (by rfl) T.b_isinstance (by rfl) T.b_tuple (by decide +kernel) (ev_var (i := 0))) (ev_and (ev_cmp (os_ne2 hr.r) (ev_var (i := 0)) (ev_tup es_nil)) (ev_and (ev_isi .str (by rfl) T.b_isinstance (by rfl) T.b_str (by decide +kernel) (ev_ix (ev_var (i := 0)) ev_int)) (ev_one (ev_cmp (os_in hr.r) (ev_ix (ev_var (i := 0)) ev_int) (ev_var (i := 1)))))))))
abbrev s_has_signs : Stmt := topS 19
abbrev N_has_signs : List Str := ["value", "signs", "most", "sign"]
theorem sc_has_signs : FnScope N_has_signs ["value", "signs", "most"] (defScope s_has_signs) := ⟨rfl, rfl, rfl, by decide +kernel, rfl, by decide +kernel, by decide +kernel⟩
def m_has_signs  : SM :=
  (sRet (eAnd (e1 (isiD .str) (eVar 0)) (eAnd (e2 leD (eL lenD2 (esCons (eVar 0) esNil)) (eVar 2)) (eL allD (esCons (eFz (nLc (iSeq (eVar 0)) (.nm 3) tTrue (e2 inD (eVar 3) (eVar 1)) [3])) esNil)))))
theorem der_has_signs (T : Tx K mg)  {cdv : Value} {A : Around} {outer : List Env} {s : Shared} {H : Hp} {E : XK} {f : Addr}
    (hr : RoomG 0 (A.deeper (envOfC "has_signs" (defScope s_has_signs) s.heap.objs.size f cdv))) :
    SVs (cxOf (L2.CX P w) P w K mg base N_has_signs "has_signs" (defScope s_has_signs) f cdv A outer s H E) (defBody s_has_signs) (m_has_signs ) :=
  (svs_one (sv_ret (ev_and (ev_isi .str (by rfl) T.b_isinstance (by rfl) T.b_str (by decide +kernel) (ev_var (i := 0))) (ev_and (ev_cmp os_leD (ev_callB cs_len2 (by rfl) T.b_len PySem.boot_len (es_cons (ev_var (i := 0)) es_nil)) (ev_var (i := 2))) (ev_one (ev_callB (cs_all rfl) (by rfl) T.b_all PyProof.Rows.boot_all (es_cons (ev_fz (en_lc rfl sc_has_signs.nd (by exact (ei_seq (ev_var (i := 0)))) (blkOk_by (own := [("sign", 3)]) (by kernel_rfl)) (fun _ _ _ _ _ => (eg_nm sc_has_signs.nd)) (fun _ _ _ _ _ => ets_nil) (fun _ _ _ _ _ => (ev_cmp (os_in hr.r) (ev_var (i := 3)) (ev_var (i := 1)))))) es_nil)))))))
abbrev s_is_key : Stmt := topS 22
abbrev N_is_key : List Str := ["value"]
theorem sc_is_key : FnScope N_is_key ["value"] (defScope s_is_key) := ⟨rfl, rfl, rfl, by decide +kernel, rfl, by decide +kernel, by decide +kernel⟩
def m_is_key (sp_has_signs : FSp) : SM :=
  (sRet (eAnd (eCall sp_has_signs (esCons (eVar 0) (esCons (eC (.str "abcdefghijklmnopqrstuvwxyz")) (esCons (eC (.int 8)) esNil)))) (e2 neD2 (eVar 0) (eC (.str "")))))
theorem der_is_key (T : Tx K mg) {sp_has_signs : FSp} (D_has_signs : Def P w K mg base "has_signs" 1 sp_has_signs) {cdv : Value} {A : Around} {outer : List Env} {s : Shared} {H : Hp} {E : XK} {f : Addr}
    (hr : RoomG 1 (A.deeper (envOfC "is_key" (defScope s_is_key) s.heap.objs.size f cdv))) :
    SVs (cxOf (L2.CX P w) P w K mg base N_is_key "is_key" (defScope s_is_key) f cdv A outer s H E) (defBody s_is_key) (m_is_key sp_has_signs) :=
  (svs_one (sv_ret (ev_and (ev_call D_has_signs (hr.mono (by decide)) (by rfl) (es_cons (ev_var (i := 0)) (es_cons (ev_gs (by rfl) T.k_SMALL_LETTERS) (es_cons (ev_gi (by rfl) T.k_MAX_KEY) es_nil)))) (ev_one (ev_cmp (os_ne2 hr.r) (ev_var (i := 0)) ev_str)))))
abbrev s_is_integer : Stmt := topS 17
abbrev N_is_integer : List Str := ["value"]
theorem sc_is_integer : FnScope N_is_integer ["value"] (defScope s_is_integer) := ⟨rfl, rfl, rfl, by decide +kernel, rfl, by decide +kernel, by decide +kernel⟩
def m_is_integer  : SM :=
  (sRet (eAnd (e1 (isiD .int) (eVar 0)) (eAnd (eNot (e1 (isiD .bool) (eVar 0))) (eChain ltD ltD (eC (.int (-1000000000000000000000000000000000000000000000000000000000000))) (eVar 0) (eC (.int 1000000000000000000000000000000000000000000000000000000000000))))))
theorem der_is_integer (T : Tx K mg)  {cdv : Value} {A : Around} {outer : List Env} {s : Shared} {H : Hp} {E : XK} {f : Addr}
    (hr : RoomG 0 (A.deeper (envOfC "is_integer" (defScope s_is_integer) s.heap.objs.size f cdv))) :
    SVs (cxOf (L2.CX P w) P w K mg base N_is_integer "is_integer" (defScope s_is_integer) f cdv A outer s H E) (defBody s_is_integer) (m_is_integer ) :=
  (svs_one (sv_ret (ev_and (ev_isi .int (by rfl) T.b_isinstance (by rfl) T.b_int (by decide +kernel) (ev_var (i := 0))) (ev_and (ev_not (ev_isi .bool (by rfl) T.b_isinstance (by rfl) T.b_bool (by decide +kernel) (ev_var (i := 0)))) (ev_one (ev_chain os_ltD os_ltD (ev_fold (.int (-1000000000000000000000000000000000000000000000000000000000000)) (ev_neg (ev_gi (by rfl) T.k_GREATEST)) (by intro ρ g Q E q; simpa using q)) (ev_var (i := 0)) (ev_gi (by rfl) T.k_GREATEST)))))))
abbrev s_is_from : Stmt := topS 18
abbrev N_is_from : List Str := ["value", "least", "most"]
theorem sc_is_from : FnScope N_is_from ["value", "least", "most"] (defScope s_is_from) := ⟨rfl, rfl, rfl, by decide +kernel, rfl, by decide +kernel, by decide +kernel⟩
def m_is_from (sp_is_integer : FSp) : SM :=
  (sRet (eAnd (eCall sp_is_integer (esCons (eVar 0) esNil)) (eChain leD leD (eVar 1) (eVar 0) (eVar 2))))
theorem der_is_from (T : Tx K mg) {sp_is_integer : FSp} (D_is_integer : Def P w K mg base "is_integer" 1 sp_is_integer) {cdv : Value} {A : Around} {outer : List Env} {s : Shared} {H : Hp} {E : XK} {f : Addr}
    (hr : RoomG 1 (A.deeper (envOfC "is_from" (defScope s_is_from) s.heap.objs.size f cdv))) :
    SVs (cxOf (L2.CX P w) P w K mg base N_is_from "is_from" (defScope s_is_from) f cdv A outer s H E) (defBody s_is_from) (m_is_from sp_is_integer) :=
  (svs_one (sv_ret (ev_and (ev_call D_is_integer (hr.mono (by decide)) (by rfl) (es_cons (ev_var (i := 0)) es_nil)) (ev_one (ev_chain os_leD os_leD (ev_var (i := 1)) (ev_var (i := 0)) (ev_var (i := 2)))))))
abbrev s_is_value : Stmt := topS 23
abbrev N_is_value : List Str := ["value"]
theorem sc_is_value : FnScope N_is_value ["value"] (defScope s_is_value) := ⟨rfl, rfl, rfl, by decide +kernel, rfl, by decide +kernel, by decide +kernel⟩
def m_is_value (sp_is_from : FSp) (sp_has_signs : FSp) : SM :=
  (sRet (eOr (eCall sp_is_from (esCons (eVar 0) (esCons (eC (.int (-999999999999))) (esCons (eC (.int 999999999999)) esNil)))) (eCall sp_has_signs (esCons (eVar 0) (esCons (eC (.str "abcdefghijklmnopqrstuvwxyz0123456789 ")) (esCons (eC (.int 12)) esNil))))))
theorem der_is_value (T : Tx K mg) {sp_is_from : FSp} (D_is_from : Def P w K mg base "is_from" 2 sp_is_from) {sp_has_signs : FSp} (D_has_signs : Def P w K mg base "has_signs" 1 sp_has_signs) {cdv : Value} {A : Around} {outer : List Env} {s : Shared} {H : Hp} {E : XK} {f : Addr}
    (hr : RoomG 2 (A.deeper (envOfC "is_value" (defScope s_is_value) s.heap.objs.size f cdv))) :
    SVs (cxOf (L2.CX P w) P w K mg base N_is_value "is_value" (defScope s_is_value) f cdv A outer s H E) (defBody s_is_value) (m_is_value sp_is_from sp_has_signs) :=
  (svs_one (sv_ret (ev_or (ev_call D_is_from (hr.mono (by decide)) (by rfl) (es_cons (ev_var (i := 0)) (es_cons (ev_fold (.int (-999999999999)) (ev_bin os_sub ev_int (ev_gi (by rfl) T.k_LEAST)) (by intro ρ g Q E q; simpa using q)) (es_cons (ev_fold (.int 999999999999) (ev_bin os_sub (ev_gi (by rfl) T.k_LEAST) ev_int) (by intro ρ g Q E q; simpa using q)) es_nil)))) (ev_one (ev_call D_has_signs (hr.mono (by decide)) (by rfl) (es_cons (ev_var (i := 0)) (es_cons (ev_gs (by rfl) T.k_STRING_SIGNS) (es_cons (ev_gi (by rfl) T.k_MAX_SIGNS) es_nil))))))))
abbrev s_is_whole : Stmt := topS 30
abbrev N_is_whole : List Str := ["value"]
theorem sc_is_whole : FnScope N_is_whole ["value"] (defScope s_is_whole) := ⟨rfl, rfl, rfl, by decide +kernel, rfl, by decide +kernel, by decide +kernel⟩
def m_is_whole  : SM :=
  (sRet (eAnd (e1 (isiD .int) (eVar 0)) (eNot (e1 (isiD .bool) (eVar 0)))))
theorem der_is_whole (T : Tx K mg)  {cdv : Value} {A : Around} {outer : List Env} {s : Shared} {H : Hp} {E : XK} {f : Addr}
    (hr : RoomG 0 (A.deeper (envOfC "is_whole" (defScope s_is_whole) s.heap.objs.size f cdv))) :
    SVs (cxOf (L2.CX P w) P w K mg base N_is_whole "is_whole" (defScope s_is_whole) f cdv A outer s H E) (defBody s_is_whole) (m_is_whole ) :=
  (svs_one (sv_ret (ev_and (ev_isi .int (by rfl) T.b_isinstance (by rfl) T.b_int (by decide +kernel) (ev_var (i := 0))) (ev_one (ev_not (ev_isi .bool (by rfl) T.b_isinstance (by rfl) T.b_bool (by decide +kernel) (ev_var (i := 0))))))))
abbrev s_is_addend : Stmt := topS 31
abbrev N_is_addend : List Str := ["value"]
theorem sc_is_addend : FnScope N_is_addend ["value"] (defScope s_is_addend) := ⟨rfl, rfl, rfl, by decide +kernel, rfl, by decide +kernel, by decide +kernel⟩
def m_is_addend (sp_is_whole : FSp) : SM :=
  (sRet (eAnd (eCall sp_is_whole (esCons (eVar 0) esNil)) (eChain leD leD (eC (.int (-999999999999))) (eVar 0) (eC (.int 999999999999)))))
theorem der_is_addend (T : Tx K mg) {sp_is_whole : FSp} (D_is_whole : Def P w K mg base "is_whole" 1 sp_is_whole) {cdv : Value} {A : Around} {outer : List Env} {s : Shared} {H : Hp} {E : XK} {f : Addr}
    (hr : RoomG 1 (A.deeper (envOfC "is_addend" (defScope s_is_addend) s.heap.objs.size f cdv))) :
    SVs (cxOf (L2.CX P w) P w K mg base N_is_addend "is_addend" (defScope s_is_addend) f cdv A outer s H E) (defBody s_is_addend) (m_is_addend sp_is_whole) :=
  (svs_one (sv_ret (ev_and (ev_call D_is_whole (hr.mono (by decide)) (by rfl) (es_cons (ev_var (i := 0)) es_nil)) (ev_one (ev_chain os_leD os_leD (ev_fold (.int (-999999999999)) (ev_neg (ev_gi (by rfl) T.k_MAX_SUM)) (by intro ρ g Q E q; simpa using q)) (ev_var (i := 0)) (ev_gi (by rfl) T.k_MAX_SUM))))))
abbrev s_is_value_or_none : Stmt := topS 32
abbrev N_is_value_or_none : List Str := ["value"]
theorem sc_is_value_or_none : FnScope N_is_value_or_none ["value"] (defScope s_is_value_or_none) := ⟨rfl, rfl, rfl, by decide +kernel, rfl, by decide +kernel, by decide +kernel⟩
def m_is_value_or_none (sp_is_value : FSp) : SM :=
  (sRet (eOr (e1 isN (eVar 0)) (eCall sp_is_value (esCons (eVar 0) esNil))))
theorem der_is_value_or_none (T : Tx K mg) {sp_is_value : FSp} (D_is_value : Def P w K mg base "is_value" 3 sp_is_value) {cdv : Value} {A : Around} {outer : List Env} {s : Shared} {H : Hp} {E : XK} {f : Addr}
    (hr : RoomG 3 (A.deeper (envOfC "is_value_or_none" (defScope s_is_value_or_none) s.heap.objs.size f cdv))) :
    SVs (cxOf (L2.CX P w) P w K mg base N_is_value_or_none "is_value_or_none" (defScope s_is_value_or_none) f cdv A outer s H E) (defBody s_is_value_or_none) (m_is_value_or_none sp_is_value) :=
  (svs_one (sv_ret (ev_or (ev_isN (ev_var (i := 0))) (ev_one (ev_call D_is_value (hr.mono (by decide)) (by rfl) (es_cons (ev_var (i := 0)) es_nil))))))
abbrev s_is_lot_deed : Stmt := topS 34
abbrev N_is_lot_deed : List Str := ["value"]
theorem sc_is_lot_deed : FnScope N_is_lot_deed ["value"] (defScope s_is_lot_deed) := ⟨rfl, rfl, rfl, by decide +kernel, rfl, by decide +kernel, by decide +kernel⟩
def m_is_lot_deed (sp_has_word : FSp) (sp_is_key : FSp) (sp_is_value : FSp) (sp_is_addend : FSp) (sp_is_value_or_none : FSp) : SM :=
  (sSeq (sIf (tNot1 (tB1 (eCall sp_has_word (esCons (eVar 0) (esCons (eC c_LOT_WORDS) esNil))))) (sRet (eC (.bl false))) sNext)
    (sSeq (sMatch (e2 ixD (eVar 0) (eC (.int 0))) [("put", (sRet (eAnd (e2 eqD2 (eL lenD2 (esCons (eVar 0) esNil)) (eC (.int 3))) (eAnd (eCall sp_is_key (esCons (e2 ixD (eVar 0) (eC (.int 1))) esNil)) (eCall sp_is_value (esCons (e2 ixD (eVar 0) (eC (.int 2))) esNil)))))), ("add", (sRet (eAnd (e2 eqD2 (eL lenD2 (esCons (eVar 0) esNil)) (eC (.int 3))) (eAnd (eCall sp_is_key (esCons (e2 ixD (eVar 0) (eC (.int 1))) esNil)) (eCall sp_is_addend (esCons (e2 ixD (eVar 0) (eC (.int 2))) esNil)))))), ("swap", (sRet (eAnd (e2 eqD2 (eL lenD2 (esCons (eVar 0) esNil)) (eC (.int 4))) (eAnd (eCall sp_is_key (esCons (e2 ixD (eVar 0) (eC (.int 1))) esNil)) (eAnd (eCall sp_is_value_or_none (esCons (e2 ixD (eVar 0) (eC (.int 2))) esNil)) (eCall sp_is_value_or_none (esCons (e2 ixD (eVar 0) (eC (.int 3))) esNil)))))))])
    (sRet (eAnd (e2 eqD2 (eL lenD2 (esCons (eVar 0) esNil)) (eC (.int 2))) (eCall sp_is_key (esCons (e2 ixD (eVar 0) (eC (.int 1))) esNil))))))
theorem der_is_lot_deed (T : Tx K mg) {sp_has_word : FSp} (D_has_word : Def P w K mg base "has_word" 1 sp_has_word) {sp_is_key : FSp} (D_is_key : Def P w K mg base "is_key" 2 sp_is_key) {sp_is_value : FSp} (D_is_value : Def P w K mg base "is_value" 3 sp_is_value) {sp_is_addend : FSp} (D_is_addend : Def P w K mg base "is_addend" 2 sp_is_addend) {sp_is_value_or_none : FSp} (D_is_value_or_none : Def P w K mg base "is_value_or_none" 4 sp_is_value_or_none) {cdv : Value} {A : Around} {outer : List Env} {s : Shared} {H : Hp} {E : XK} {f : Addr}
    (hr : RoomG 4 (A.deeper (envOfC "is_lot_deed" (defScope s_is_lot_deed) s.heap.objs.size f cdv))) :
    SVs (cxOf (L2.CX P w) P w K mg base N_is_lot_deed "is_lot_deed" (defScope s_is_lot_deed) f cdv A outer s H E) (defBody s_is_lot_deed) (m_is_lot_deed sp_has_word sp_is_key sp_is_value sp_is_addend sp_is_value_or_none) :=
  (svs_cons (sv_if (et_not (et_val (ev_call D_has_word (hr.mono (by decide)) (by rfl) (es_cons (ev_var (i := 0)) (es_cons (ev_gcon (by rfl) T.k_LOT_WORDS) es_nil))))) (svs_one (sv_ret ev_bl)) svs_nil)
    (svs_cons (sv_match (ev_ix (ev_var (i := 0)) ev_int) (.cons (svs_one (sv_ret (ev_and (ev_cmp (os_eq2 hr.r) (ev_callB cs_len2 (by rfl) T.b_len PySem.boot_len (es_cons (ev_var (i := 0)) es_nil)) ev_int) (ev_and (ev_call D_is_key (hr.mono (by decide)) (by rfl) (es_cons (ev_ix (ev_var (i := 0)) ev_int) es_nil)) (ev_one (ev_call D_is_value (hr.mono (by decide)) (by rfl) (es_cons (ev_ix (ev_var (i := 0)) ev_int) es_nil))))))) (.cons (svs_one (sv_ret (ev_and (ev_cmp (os_eq2 hr.r) (ev_callB cs_len2 (by rfl) T.b_len PySem.boot_len (es_cons (ev_var (i := 0)) es_nil)) ev_int) (ev_and (ev_call D_is_key (hr.mono (by decide)) (by rfl) (es_cons (ev_ix (ev_var (i := 0)) ev_int) es_nil)) (ev_one (ev_call D_is_addend (hr.mono (by decide)) (by rfl) (es_cons (ev_ix (ev_var (i := 0)) ev_int) es_nil))))))) (.cons (svs_one (sv_ret (ev_and (ev_cmp (os_eq2 hr.r) (ev_callB cs_len2 (by rfl) T.b_len PySem.boot_len (es_cons (ev_var (i := 0)) es_nil)) ev_int) (ev_and (ev_call D_is_key (hr.mono (by decide)) (by rfl) (es_cons (ev_ix (ev_var (i := 0)) ev_int) es_nil)) (ev_and (ev_call D_is_value_or_none (hr.mono (by decide)) (by rfl) (es_cons (ev_ix (ev_var (i := 0)) ev_int) es_nil)) (ev_one (ev_call D_is_value_or_none (hr.mono (by decide)) (by rfl) (es_cons (ev_ix (ev_var (i := 0)) ev_int) es_nil)))))))) .nil))))
    (svs_one (sv_ret (ev_and (ev_cmp (os_eq2 hr.r) (ev_callB cs_len2 (by rfl) T.b_len PySem.boot_len (es_cons (ev_var (i := 0)) es_nil)) ev_int) (ev_one (ev_call D_is_key (hr.mono (by decide)) (by rfl) (es_cons (ev_ix (ev_var (i := 0)) ev_int) es_nil))))))))
abbrev s_is_lot : Stmt := topS 35
abbrev N_is_lot : List Str := ["value", "deed"]
theorem sc_is_lot : FnScope N_is_lot ["value"] (defScope s_is_lot) := ⟨rfl, rfl, rfl, by decide +kernel, rfl, by decide +kernel, by decide +kernel⟩
def m_is_lot (sp_is_lot_deed : FSp) : SM :=
  (sRet (eAnd (e1 (isiD .tuple) (eVar 0)) (eAnd (eChain leD leD (eC (.int 1)) (eL lenD2 (esCons (eVar 0) esNil)) (eC (.int 6))) (eL allD (esCons (eFz (nLc (iSeq (eVar 0)) (.nm 1) tTrue (eCall sp_is_lot_deed (esCons (eVar 1) esNil)) [1])) esNil)))))
theorem der_is_lot (T : Tx K mg) {sp_is_lot_deed : FSp} (D_is_lot_deed : Def P w K mg base "is_lot_deed" 5 sp_is_lot_deed) {cdv : Value} {A : Around} {outer : List Env} {s : Shared} {H : Hp} {E : XK} {f : Addr}
    (hr : RoomG 5 (A.deeper (envOfC "is_lot" (defScope s_is_lot) s.heap.objs.size f cdv))) :
    SVs (cxOf (L2.CX P w) P w K mg base N_is_lot "is_lot" (defScope s_is_lot) f cdv A outer s H E) (defBody s_is_lot) (m_is_lot sp_is_lot_deed) :=
  (svs_one (sv_ret (ev_and (ev_isi .tuple (by rfl) T.b_isinstance (by rfl) T.b_tuple (by decide +kernel) (ev_var (i := 0))) (ev_and (ev_chain os_leD os_leD ev_int (ev_callB cs_len2 (by rfl) T.b_len PySem.boot_len (es_cons (ev_var (i := 0)) es_nil)) (ev_gi (by rfl) T.k_MAX_LOT)) (ev_one (ev_callB (cs_all rfl) (by rfl) T.b_all PyProof.Rows.boot_all (es_cons (ev_fz (en_lc rfl sc_is_lot.nd (by exact (ei_seq (ev_var (i := 0)))) (blkOk_by (own := [("deed", 1)]) (by kernel_rfl)) (fun _ _ _ _ _ => (eg_nm sc_is_lot.nd)) (fun _ _ _ _ _ => ets_nil) (fun _ _ _ _ _ => (ev_call D_is_lot_deed (hr.mono (by decide)) (by rfl) (es_cons (ev_var (i := 1)) es_nil))))) es_nil)))))))
abbrev s_is_house : Stmt := topS 20
abbrev N_is_house : List Str := ["value"]
theorem sc_is_house : FnScope N_is_house ["value"] (defScope s_is_house) := ⟨rfl, rfl, rfl, by decide +kernel, rfl, by decide +kernel, by decide +kernel⟩
def m_is_house (sp_is_from : FSp) : SM :=
  (sRet (eCall sp_is_from (esCons (eVar 0) (esCons (eC (.int 0)) (esCons (eC (.int 8)) esNil)))))
theorem der_is_house (T : Tx K mg) {sp_is_from : FSp} (D_is_from : Def P w K mg base "is_from" 2 sp_is_from) {cdv : Value} {A : Around} {outer : List Env} {s : Shared} {H : Hp} {E : XK} {f : Addr}
    (hr : RoomG 2 (A.deeper (envOfC "is_house" (defScope s_is_house) s.heap.objs.size f cdv))) :
    SVs (cxOf (L2.CX P w) P w K mg base N_is_house "is_house" (defScope s_is_house) f cdv A outer s H E) (defBody s_is_house) (m_is_house sp_is_from) :=
  (svs_one (sv_ret (ev_call D_is_from (hr.mono (by decide)) (by rfl) (es_cons (ev_var (i := 0)) (es_cons ev_int (es_cons (ev_fold (.int 8) (ev_bin os_sub (ev_gi (by rfl) T.k_MAX_HOUSES) ev_int) (by intro ρ g Q E q; simpa using q)) es_nil))))))
abbrev s_is_circle : Stmt := topS 21
abbrev N_is_circle : List Str := ["value", "one", "other"]
theorem sc_is_circle : FnScope N_is_circle ["value"] (defScope s_is_circle) := ⟨rfl, rfl, rfl, by decide +kernel, rfl, by decide +kernel, by decide +kernel⟩
def m_is_circle (sp_is_house : FSp) : SM :=
  (sSeq (sIf (tOr1 (tNot1 (tB1 (e1 (isiD .tuple) (eVar 0)))) (tOr1 (tNot1 (tB1 (eChain leD leD (eC (.int 1)) (eL lenD2 (esCons (eVar 0) esNil)) (eC (.int 7))))) (tNot1 (tB1 (eL allD (esCons (eFz (nLc (iSeq (eVar 0)) (.nm 1) tTrue (eCall sp_is_house (esCons (eVar 1) esNil)) [1])) esNil)))))) (sRet (eC (.bl false))) sNext)
    (sRet (eL allD (esCons (eFz (nLc (iZip (esCons (eVar 0) (esCons (eSl (eVar 0) (oSome (eC (.int 1))) oNone) esNil))) (.tp [1, 2]) tTrue (e2 ltD (eVar 1) (eVar 2)) [1, 2])) esNil))))
theorem der_is_circle (T : Tx K mg) {sp_is_house : FSp} (D_is_house : Def P w K mg base "is_house" 3 sp_is_house) {cdv : Value} {A : Around} {outer : List Env} {s : Shared} {H : Hp} {E : XK} {f : Addr}
    (hr : RoomG 3 (A.deeper (envOfC "is_circle" (defScope s_is_circle) s.heap.objs.size f cdv))) :
    SVs (cxOf (L2.CX P w) P w K mg base N_is_circle "is_circle" (defScope s_is_circle) f cdv A outer s H E) (defBody s_is_circle) (m_is_circle sp_is_house) :=
  (svs_cons (sv_if (et_w (ew_or (et_not (et_val (ev_isi .tuple (by rfl) T.b_isinstance (by rfl) T.b_tuple (by decide +kernel) (ev_var (i := 0))))) (ew_or (et_not (et_chain os_leD os_leD ev_int (ev_callB cs_len2 (by rfl) T.b_len PySem.boot_len (es_cons (ev_var (i := 0)) es_nil)) (ev_gi (by rfl) T.k_MAX_CIRCLE))) (ew_or1 (et_not (et_val (ev_callB (cs_all rfl) (by rfl) T.b_all PyProof.Rows.boot_all (es_cons (ev_fz (en_lc rfl sc_is_circle.nd (by exact (ei_seq (ev_var (i := 0)))) (blkOk_by (own := [("one", 1)]) (by kernel_rfl)) (fun _ _ _ _ _ => (eg_nm sc_is_circle.nd)) (fun _ _ _ _ _ => ets_nil) (fun _ _ _ _ _ => (ev_call D_is_house (hr.mono (by decide)) (by rfl) (es_cons (ev_var (i := 1)) es_nil))))) es_nil)))))))) (svs_one (sv_ret ev_bl)) svs_nil)
    (svs_one (sv_ret (ev_callB (cs_all rfl) (by rfl) T.b_all PyProof.Rows.boot_all (es_cons (ev_fz (en_lc rfl sc_is_circle.nd (by exact (ei_zip (by rfl) T.b_zip (es_cons (ev_var (i := 0)) (es_cons (ev_slice (ev_var (i := 0)) (eo_some ev_int) eo_none) es_nil)))) (blkOk_by (own := [("one", 1), ("other", 2)]) (by kernel_rfl)) (fun _ _ _ _ _ => (eg_tp rfl (egs_cons (eg_nm sc_is_circle.nd) (egs_cons (eg_nm sc_is_circle.nd) egs_nil)))) (fun _ _ _ _ _ => ets_nil) (fun _ _ _ _ _ => (ev_cmp os_ltD (ev_var (i := 1)) (ev_var (i := 2)))))) es_nil)))))
abbrev s_is_deed : Stmt := topS 36
abbrev N_is_deed : List Str := ["value"]
theorem sc_is_deed : FnScope N_is_deed ["value"] (defScope s_is_deed) := ⟨rfl, rfl, rfl, by decide +kernel, rfl, by decide +kernel, by decide +kernel⟩
def m_is_deed (sp_is_lot_deed : FSp) (sp_has_word : FSp) (sp_is_key : FSp) (sp_is_lot : FSp) (sp_is_circle : FSp) : SM :=
  (sSeq (sIf (tNot1 (tB1 (eCall sp_has_word (esCons (eVar 0) (esCons (eC c_DEED_WORDS) esNil))))) (sRet (eC (.bl false))) sNext)
    (sSeq (sMatch (e2 ixD (eVar 0) (eC (.int 0))) [("list", (sRet (eAnd (e2 eqD2 (eL lenD2 (esCons (eVar 0) esNil)) (eC (.int 3))) (eAnd (eCall sp_is_key (esCons (e2 ixD (eVar 0) (eC (.int 1))) esNil)) (eCall sp_is_key (esCons (e2 ixD (eVar 0) (eC (.int 2))) esNil)))))), ("all", (sRet (eAnd (e2 eqD2 (eL lenD2 (esCons (eVar 0) esNil)) (eC (.int 2))) (eCall sp_is_lot (esCons (e2 ixD (eVar 0) (eC (.int 1))) esNil))))), ("circle", (sRet (eAnd (e2 eqD2 (eL lenD2 (esCons (eVar 0) esNil)) (eC (.int 2))) (eCall sp_is_circle (esCons (e2 ixD (eVar 0) (eC (.int 1))) esNil)))))])
    (sRet (eCall sp_is_lot_deed (esCons (eVar 0) esNil)))))
theorem der_is_deed (T : Tx K mg) {sp_is_lot_deed : FSp} (D_is_lot_deed : Def P w K mg base "is_lot_deed" 5 sp_is_lot_deed) {sp_has_word : FSp} (D_has_word : Def P w K mg base "has_word" 1 sp_has_word) {sp_is_key : FSp} (D_is_key : Def P w K mg base "is_key" 2 sp_is_key) {sp_is_lot : FSp} (D_is_lot : Def P w K mg base "is_lot" 6 sp_is_lot) {sp_is_circle : FSp} (D_is_circle : Def P w K mg base "is_circle" 4 sp_is_circle) {cdv : Value} {A : Around} {outer : List Env} {s : Shared} {H : Hp} {E : XK} {f : Addr}
    (hr : RoomG 6 (A.deeper (envOfC "is_deed" (defScope s_is_deed) s.heap.objs.size f cdv))) :
    SVs (cxOf (L2.CX P w) P w K mg base N_is_deed "is_deed" (defScope s_is_deed) f cdv A outer s H E) (defBody s_is_deed) (m_is_deed sp_is_lot_deed sp_has_word sp_is_key sp_is_lot sp_is_circle) :=
  (svs_cons (sv_if (et_not (et_val (ev_call D_has_word (hr.mono (by decide)) (by rfl) (es_cons (ev_var (i := 0)) (es_cons (ev_gcon (by rfl) T.k_DEED_WORDS) es_nil))))) (svs_one (sv_ret ev_bl)) svs_nil)
    (svs_cons (sv_match (ev_ix (ev_var (i := 0)) ev_int) (.cons (svs_one (sv_ret (ev_and (ev_cmp (os_eq2 hr.r) (ev_callB cs_len2 (by rfl) T.b_len PySem.boot_len (es_cons (ev_var (i := 0)) es_nil)) ev_int) (ev_and (ev_call D_is_key (hr.mono (by decide)) (by rfl) (es_cons (ev_ix (ev_var (i := 0)) ev_int) es_nil)) (ev_one (ev_call D_is_key (hr.mono (by decide)) (by rfl) (es_cons (ev_ix (ev_var (i := 0)) ev_int) es_nil))))))) (.cons (svs_one (sv_ret (ev_and (ev_cmp (os_eq2 hr.r) (ev_callB cs_len2 (by rfl) T.b_len PySem.boot_len (es_cons (ev_var (i := 0)) es_nil)) ev_int) (ev_one (ev_call D_is_lot (hr.mono (by decide)) (by rfl) (es_cons (ev_ix (ev_var (i := 0)) ev_int) es_nil)))))) (.cons (svs_one (sv_ret (ev_and (ev_cmp (os_eq2 hr.r) (ev_callB cs_len2 (by rfl) T.b_len PySem.boot_len (es_cons (ev_var (i := 0)) es_nil)) ev_int) (ev_one (ev_call D_is_circle (hr.mono (by decide)) (by rfl) (es_cons (ev_ix (ev_var (i := 0)) ev_int) es_nil)))))) .nil))))
    (svs_one (sv_ret (ev_call D_is_lot_deed (hr.mono (by decide)) (by rfl) (es_cons (ev_var (i := 0)) es_nil))))))
abbrev s_are_pairs : Stmt := topS 37
abbrev N_are_pairs : List Str := ["value", "key", "one"]
theorem sc_are_pairs : FnScope N_are_pairs ["value"] (defScope s_are_pairs) := ⟨rfl, rfl, rfl, by decide +kernel, rfl, by decide +kernel, by decide +kernel⟩
def m_are_pairs (sp_is_key : FSp) (sp_is_value : FSp) : SM :=
  (sSeq (sIf (tOr1 (tNot1 (tB1 (e1 (isiD .dict) (eVar 0)))) (tB1 (e2 gtD (eL lenD2 (esCons (eVar 0) esNil)) (eC (.int 24))))) (sRet (eC (.bl false))) sNext)
    (sRet (eL allD (esCons (eFz (nLc (iItemD (eVar 0)) (.tp [1, 2]) tTrue (eAnd (eCall sp_is_key (esCons (eVar 1) esNil)) (eCall sp_is_value (esCons (eVar 2) esNil))) [1, 2])) esNil))))
theorem der_are_pairs (T : Tx K mg) {sp_is_key : FSp} (D_is_key : Def P w K mg base "is_key" 2 sp_is_key) {sp_is_value : FSp} (D_is_value : Def P w K mg base "is_value" 3 sp_is_value) {cdv : Value} {A : Around} {outer : List Env} {s : Shared} {H : Hp} {E : XK} {f : Addr}
    (hr : RoomG 3 (A.deeper (envOfC "are_pairs" (defScope s_are_pairs) s.heap.objs.size f cdv))) :
    SVs (cxOf (L2.CX P w) P w K mg base N_are_pairs "are_pairs" (defScope s_are_pairs) f cdv A outer s H E) (defBody s_are_pairs) (m_are_pairs sp_is_key sp_is_value) :=
  (svs_cons (sv_if (et_w (ew_or (et_not (et_val (ev_isi .dict (by rfl) T.b_isinstance (by rfl) T.b_dict (by decide +kernel) (ev_var (i := 0))))) (ew_or1 (et_cmp os_gtD (ev_callB cs_len2 (by rfl) T.b_len PySem.boot_len (es_cons (ev_var (i := 0)) es_nil)) (ev_gi (by rfl) T.k_MAX_KEYS))))) (svs_one (sv_ret ev_bl)) svs_nil)
    (svs_one (sv_ret (ev_callB (cs_all rfl) (by rfl) T.b_all PyProof.Rows.boot_all (es_cons (ev_fz (en_lc rfl sc_are_pairs.nd (by exact (ei_itemD (ev_var (i := 0)))) (blkOk_by (own := [("key", 1), ("one", 2)]) (by kernel_rfl)) (fun _ _ _ _ _ => (eg_tp rfl (egs_cons (eg_nm sc_are_pairs.nd) (egs_cons (eg_nm sc_are_pairs.nd) egs_nil)))) (fun _ _ _ _ _ => ets_nil) (fun _ _ _ _ _ => (ev_and (ev_call D_is_key (hr.mono (by decide)) (by rfl) (es_cons (ev_var (i := 1)) es_nil)) (ev_one (ev_call D_is_value (hr.mono (by decide)) (by rfl) (es_cons (ev_var (i := 2)) es_nil))))))) es_nil)))))
abbrev s_require_pairs : Stmt := topS 48
abbrev N_require_pairs : List Str := ["value"]
theorem sc_require_pairs : FnScope N_require_pairs ["value"] (defScope s_require_pairs) := ⟨rfl, rfl, rfl, by decide +kernel, rfl, by decide +kernel, by decide +kernel⟩
def m_require_pairs (sp_are_pairs : FSp) : SM :=
  (sIf (tNot1 (tB1 (eCall sp_are_pairs (esCons (eVar 0) esNil)))) (sRaise C_InvalidState (eC (.str "a dict from at most 24 keys to values is expected"))) sNext)
theorem der_require_pairs (T : Tx K mg) {sp_are_pairs : FSp} (D_are_pairs : Def P w K mg base "are_pairs" 4 sp_are_pairs) {cdv : Value} {A : Around} {outer : List Env} {s : Shared} {H : Hp} {E : XK} {f : Addr}
    (hr : RoomG 4 (A.deeper (envOfC "require_pairs" (defScope s_require_pairs) s.heap.objs.size f cdv))) :
    SVs (cxOf (L2.CX P w) P w K mg base N_require_pairs "require_pairs" (defScope s_require_pairs) f cdv A outer s H E) (defBody s_require_pairs) (m_require_pairs sp_are_pairs) :=
  (svs_one (sv_if (et_not (et_val (ev_call D_are_pairs (hr.mono (by decide)) (by rfl) (es_cons (ev_var (i := 0)) es_nil)))) (svs_one (sv_raise rfl T.rai_InvalidState (by rfl) T.n_InvalidState ev_str)) svs_nil))
abbrev s_require_deed : Stmt := topS 47
abbrev N_require_deed : List Str := ["value"]
theorem sc_require_deed : FnScope N_require_deed ["value"] (defScope s_require_deed) := ⟨rfl, rfl, rfl, by decide +kernel, rfl, by decide +kernel, by decide +kernel⟩
def m_require_deed (sp_is_deed : FSp) : SM :=
  (sIf (tNot1 (tB1 (eCall sp_is_deed (esCons (eVar 0) esNil)))) (sRaise C_InvalidDeed (eC (.str "a deed is expected"))) sNext)
theorem der_require_deed (T : Tx K mg) {sp_is_deed : FSp} (D_is_deed : Def P w K mg base "is_deed" 7 sp_is_deed) {cdv : Value} {A : Around} {outer : List Env} {s : Shared} {H : Hp} {E : XK} {f : Addr}
    (hr : RoomG 7 (A.deeper (envOfC "require_deed" (defScope s_require_deed) s.heap.objs.size f cdv))) :
    SVs (cxOf (L2.CX P w) P w K mg base N_require_deed "require_deed" (defScope s_require_deed) f cdv A outer s H E) (defBody s_require_deed) (m_require_deed sp_is_deed) :=
  (svs_one (sv_if (et_not (et_val (ev_call D_is_deed (hr.mono (by decide)) (by rfl) (es_cons (ev_var (i := 0)) es_nil)))) (svs_one (sv_raise rfl T.rai_InvalidDeed (by rfl) T.n_InvalidDeed ev_str)) svs_nil))
abbrev s_with_key : Stmt := topS 39
abbrev N_with_key : List Str := ["pairs", "key", "value", "found", "one", "told"]
theorem sc_with_key : FnScope N_with_key ["pairs", "key", "value"] (defScope s_with_key) := ⟨rfl, rfl, rfl, by decide +kernel, rfl, by decide +kernel, by decide +kernel⟩
def m_with_key  : SM :=
  (sSeq (sSet 3 (eDtrk (dDc (iItemD (eVar 0)) (.tp [4, 5]) (tB1 (e2 neD2 (eVar 4) (eVar 1))) (eVar 4) (eVar 5) [4, 5])))
    (sSeq (sIf (tB1 (e1 notN (eVar 2))) (sSeq (sIf (tB1 (e2 geD (eLenT (eVar 3)) (eC (.int 24)))) (sLock 3 (sRet (eC .non))) sNext)
    (sTput (eVar 3) (eVar 1) (eVar 2))) sNext)
    (sLock 3 (sRet (eDfz (dDc (iSeq (eFz (nL sortedD3 (esCons (eVar 3) esNil)))) (.nm 4) tTrue (eVar 4) (eDix (eVar 3) (eVar 4)) [4]))))))
theorem der_with_key (T : Tx K mg)  {cdv : Value} {A : Around} {outer : List Env} {s : Shared} {H : Hp} {E : XK} {f : Addr}
    (hr : RoomG 0 (A.deeper (envOfC "with_key" (defScope s_with_key) s.heap.objs.size f cdv))) :
    SVs (cxOf (L2.CX P w) P w K mg base N_with_key "with_key" (defScope s_with_key) f cdv A outer s H E) (defBody s_with_key) (m_with_key ) :=
  (svs_cons (sv_set (i := 3) sc_with_key.nd (ev_dtrk (ed_dc rfl sc_with_key.nd (by exact (ei_itemD (ev_var (i := 0)))) (blkOk_by (own := [("one", 4), ("told", 5)]) (by kernel_rfl)) (fun _ _ _ _ _ => (eg_tp rfl (egs_cons (eg_nm sc_with_key.nd) (egs_cons (eg_nm sc_with_key.nd) egs_nil)))) (fun _ _ _ _ _ => (ets_one (et_cmp (os_ne2 hr.r) (ev_var (i := 4)) (ev_var (i := 1))))) (fun _ _ _ _ _ => (ev_var (i := 4))) (fun _ _ _ _ _ => (ev_var (i := 5))))))
    (svs_cons (sv_if (et_notN (ev_var (i := 2))) (svs_cons (sv_if (et_cmp os_geD (ev_lenT (by rfl) T.b_len (ev_var (i := 3))) (ev_gi (by rfl) T.k_MAX_KEYS)) (svs_one (sv_lock (i := 3) (sv_ret ev_non))) svs_nil)
    (svs_one (sv_tput hr.r (ev_var (i := 3)) (ev_var (i := 1)) (ev_var (i := 2))))) svs_nil)
    (svs_one (sv_lock (i := 3) (sv_ret (ev_dfz (ed_dc rfl sc_with_key.nd (by exact (ei_seq (ev_fz (en_callB (cn_sortedD3 rfl) (by rfl) T.b_sorted PyProof.Rows.boot_sorted (es_cons (ev_var (i := 3)) es_nil))))) (blkOk_by (own := [("one", 4)]) (by kernel_rfl)) (fun _ _ _ _ _ => (eg_nm sc_with_key.nd)) (fun _ _ _ _ _ => ets_nil) (fun _ _ _ _ _ => (ev_var (i := 4))) (fun _ _ _ _ _ => (ev_dix hr.r (ev_var (i := 3)) (ev_var (i := 4)))))))))))
abbrev s_put_in : Stmt := topS 40
abbrev N_put_in : List Str := ["pairs", "key", "value", "answer", "found"]
theorem sc_put_in : FnScope N_put_in ["pairs", "key", "value", "answer"] (defScope s_put_in) := ⟨rfl, rfl, rfl, by decide +kernel, rfl, by decide +kernel, by decide +kernel⟩
def m_put_in (sp_with_key : FSp) : SM :=
  (sSeq (sSet 4 (eCall sp_with_key (esCons (eVar 0) (esCons (eVar 1) (esCons (eVar 2) esNil)))))
    (sRet (eIf (tB1 (e1 isN (eVar 4))) (eTup (esCons (eVar 0) (esCons (eTup (esCons (eC (.str "full")) esNil)) esNil))) (eTup (esCons (eVar 4) (esCons (eVar 3) esNil))))))
theorem der_put_in (T : Tx K mg) {sp_with_key : FSp} (D_with_key : Def P w K mg base "with_key" 1 sp_with_key) {cdv : Value} {A : Around} {outer : List Env} {s : Shared} {H : Hp} {E : XK} {f : Addr}
    (hr : RoomG 1 (A.deeper (envOfC "put_in" (defScope s_put_in) s.heap.objs.size f cdv))) :
    SVs (cxOf (L2.CX P w) P w K mg base N_put_in "put_in" (defScope s_put_in) f cdv A outer s H E) (defBody s_put_in) (m_put_in sp_with_key) :=
  (svs_cons (sv_set (i := 4) sc_put_in.nd (ev_call D_with_key (hr.mono (by decide)) (by rfl) (es_cons (ev_var (i := 0)) (es_cons (ev_var (i := 1)) (es_cons (ev_var (i := 2)) es_nil)))))
    (svs_one (sv_ret (ev_if (et_isN (ev_var (i := 4))) (ev_tup (es_cons (ev_var (i := 0)) (es_cons (ev_tup (es_cons ev_str es_nil)) es_nil))) (ev_tup (es_cons (ev_var (i := 4)) (es_cons (ev_var (i := 3)) es_nil)))))))
abbrev s_added_in : Stmt := topS 41
abbrev N_added_in : List Str := ["pairs", "key", "number", "old"]
theorem sc_added_in : FnScope N_added_in ["pairs", "key", "number"] (defScope s_added_in) := ⟨rfl, rfl, rfl, by decide +kernel, rfl, by decide +kernel, by decide +kernel⟩
def m_added_in (sp_put_in : FSp) (sp_is_whole : FSp) (sp_is_addend : FSp) : SM :=
  (sSeq (sSet 3 (eGet (eVar 0) (eVar 1) (eC (.int 0))))
    (sSeq (sIf (tNot1 (tB1 (eCall sp_is_whole (esCons (eVar 3) esNil)))) (sRet (eTup (esCons (eVar 0) (esCons (eTup (esCons (eC (.str "kind")) esNil)) esNil)))) sNext)
    (sSeq (sIf (tNot1 (tB1 (eCall sp_is_addend (esCons (e2 addD (eVar 3) (eVar 2)) esNil)))) (sRet (eTup (esCons (eVar 0) (esCons (eTup (esCons (eC (.str "bound")) esNil)) esNil)))) sNext)
    (sRet (eCall sp_put_in (esCons (eVar 0) (esCons (eVar 1) (esCons (e2 addD (eVar 3) (eVar 2)) (esCons (eTup (esCons (eC (.str "sum")) (esCons (e2 addD (eVar 3) (eVar 2)) esNil))) esNil)))))))))
theorem der_added_in (T : Tx K mg) {sp_put_in : FSp} (D_put_in : Def P w K mg base "put_in" 2 sp_put_in) {sp_is_whole : FSp} (D_is_whole : Def P w K mg base "is_whole" 1 sp_is_whole) {sp_is_addend : FSp} (D_is_addend : Def P w K mg base "is_addend" 2 sp_is_addend) {cdv : Value} {A : Around} {outer : List Env} {s : Shared} {H : Hp} {E : XK} {f : Addr}
    (hr : RoomG 2 (A.deeper (envOfC "added_in" (defScope s_added_in) s.heap.objs.size f cdv))) :
    SVs (cxOf (L2.CX P w) P w K mg base N_added_in "added_in" (defScope s_added_in) f cdv A outer s H E) (defBody s_added_in) (m_added_in sp_put_in sp_is_whole sp_is_addend) :=
  (svs_cons (sv_set (i := 3) sc_added_in.nd (ev_get2 hr.r (ev_var (i := 0)) (ev_var (i := 1)) ev_int))
    (svs_cons (sv_if (et_not (et_val (ev_call D_is_whole (hr.mono (by decide)) (by rfl) (es_cons (ev_var (i := 3)) es_nil)))) (svs_one (sv_ret (ev_tup (es_cons (ev_var (i := 0)) (es_cons (ev_tup (es_cons ev_str es_nil)) es_nil))))) svs_nil)
    (svs_cons (sv_if (et_not (et_val (ev_call D_is_addend (hr.mono (by decide)) (by rfl) (es_cons (ev_bin os_addD (ev_var (i := 3)) (ev_var (i := 2))) es_nil)))) (svs_one (sv_ret (ev_tup (es_cons (ev_var (i := 0)) (es_cons (ev_tup (es_cons ev_str es_nil)) es_nil))))) svs_nil)
    (svs_one (sv_ret (ev_call D_put_in (hr.mono (by decide)) (by rfl) (es_cons (ev_var (i := 0)) (es_cons (ev_var (i := 1)) (es_cons (ev_bin os_addD (ev_var (i := 3)) (ev_var (i := 2))) (es_cons (ev_tup (es_cons ev_str (es_cons (ev_bin os_addD (ev_var (i := 3)) (ev_var (i := 2))) es_nil))) es_nil))))))))))
abbrev s_are_same : Stmt := topS 38
abbrev N_are_same : List Str := ["one", "other"]
theorem sc_are_same : FnScope N_are_same ["one", "other"] (defScope s_are_same) := ⟨rfl, rfl, rfl, by decide +kernel, rfl, by decide +kernel, by decide +kernel⟩
def m_are_same (sp_is_whole : FSp) : SM :=
  (sRet (eAnd (e2 eqD2 (eCall sp_is_whole (esCons (eVar 0) esNil)) (eCall sp_is_whole (esCons (eVar 1) esNil))) (e2 eqD2 (eVar 0) (eVar 1))))
theorem der_are_same (T : Tx K mg) {sp_is_whole : FSp} (D_is_whole : Def P w K mg base "is_whole" 1 sp_is_whole) {cdv : Value} {A : Around} {outer : List Env} {s : Shared} {H : Hp} {E : XK} {f : Addr}
    (hr : RoomG 1 (A.deeper (envOfC "are_same" (defScope s_are_same) s.heap.objs.size f cdv))) :
    SVs (cxOf (L2.CX P w) P w K mg base N_are_same "are_same" (defScope s_are_same) f cdv A outer s H E) (defBody s_are_same) (m_are_same sp_is_whole) :=
  (svs_one (sv_ret (ev_and (ev_cmp (os_eq2 hr.r) (ev_call D_is_whole (hr.mono (by decide)) (by rfl) (es_cons (ev_var (i := 0)) es_nil)) (ev_call D_is_whole (hr.mono (by decide)) (by rfl) (es_cons (ev_var (i := 1)) es_nil))) (ev_one (ev_cmp (os_eq2 hr.r) (ev_var (i := 0)) (ev_var (i := 1)))))))
abbrev s_lot_deed_in : Stmt := topS 42
abbrev N_lot_deed_in : List Str := ["pairs", "deed", "key", "old"]
theorem sc_lot_deed_in : FnScope N_lot_deed_in ["pairs", "deed"] (defScope s_lot_deed_in) := ⟨rfl, rfl, rfl, by decide +kernel, rfl, by decide +kernel, by decide +kernel⟩
def m_lot_deed_in (sp_put_in : FSp) (sp_added_in : FSp) (sp_are_same : FSp) : SM :=
  (sSeq (sSet 2 (e2 ixD (eVar 1) (eC (.int 1))))
    (sSeq (sSet 3 (eGet1 (eVar 0) (eVar 2)))
    (sSeq (sMatch (e2 ixD (eVar 1) (eC (.int 0))) [("put", (sRet (eCall sp_put_in (esCons (eVar 0) (esCons (eVar 2) (esCons (e2 ixD (eVar 1) (eC (.int 2))) (esCons (eTup (esCons (eC (.str "was")) (esCons (eVar 3) esNil))) esNil))))))), ("drop", (sRet (eCall sp_put_in (esCons (eVar 0) (esCons (eVar 2) (esCons (eC .non) (esCons (eTup (esCons (eC (.str "was")) (esCons (eVar 3) esNil))) esNil))))))), ("add", (sRet (eCall sp_added_in (esCons (eVar 0) (esCons (eVar 2) (esCons (e2 ixD (eVar 1) (eC (.int 2))) esNil)))))), ("swap", (sRet (eIf (tB1 (eCall sp_are_same (esCons (eVar 3) (esCons (e2 ixD (eVar 1) (eC (.int 2))) esNil)))) (eCall sp_put_in (esCons (eVar 0) (esCons (eVar 2) (esCons (e2 ixD (eVar 1) (eC (.int 3))) (esCons (eTup (esCons (eC (.str "swapped")) esNil)) esNil))))) (eTup (esCons (eVar 0) (esCons (eTup (esCons (eC (.str "other")) (esCons (eVar 3) esNil))) esNil))))))])
    (sRet (eTup (esCons (eVar 0) (esCons (eTup (esCons (eC (.str "is")) (esCons (eVar 3) esNil))) esNil)))))))
theorem der_lot_deed_in (T : Tx K mg) {sp_put_in : FSp} (D_put_in : Def P w K mg base "put_in" 2 sp_put_in) {sp_added_in : FSp} (D_added_in : Def P w K mg base "added_in" 3 sp_added_in) {sp_are_same : FSp} (D_are_same : Def P w K mg base "are_same" 2 sp_are_same) {cdv : Value} {A : Around} {outer : List Env} {s : Shared} {H : Hp} {E : XK} {f : Addr}
    (hr : RoomG 3 (A.deeper (envOfC "lot_deed_in" (defScope s_lot_deed_in) s.heap.objs.size f cdv))) :
    SVs (cxOf (L2.CX P w) P w K mg base N_lot_deed_in "lot_deed_in" (defScope s_lot_deed_in) f cdv A outer s H E) (defBody s_lot_deed_in) (m_lot_deed_in sp_put_in sp_added_in sp_are_same) :=
  (svs_cons (sv_set (i := 2) sc_lot_deed_in.nd (ev_ix (ev_var (i := 1)) ev_int))
    (svs_cons (sv_set (i := 3) sc_lot_deed_in.nd (ev_get1 hr.r (ev_var (i := 0)) (ev_var (i := 2))))
    (svs_cons (sv_match (ev_ix (ev_var (i := 1)) ev_int) (.cons (svs_one (sv_ret (ev_call D_put_in (hr.mono (by decide)) (by rfl) (es_cons (ev_var (i := 0)) (es_cons (ev_var (i := 2)) (es_cons (ev_ix (ev_var (i := 1)) ev_int) (es_cons (ev_tup (es_cons ev_str (es_cons (ev_var (i := 3)) es_nil))) es_nil))))))) (.cons (svs_one (sv_ret (ev_call D_put_in (hr.mono (by decide)) (by rfl) (es_cons (ev_var (i := 0)) (es_cons (ev_var (i := 2)) (es_cons ev_non (es_cons (ev_tup (es_cons ev_str (es_cons (ev_var (i := 3)) es_nil))) es_nil))))))) (.cons (svs_one (sv_ret (ev_call D_added_in (hr.mono (by decide)) (by rfl) (es_cons (ev_var (i := 0)) (es_cons (ev_var (i := 2)) (es_cons (ev_ix (ev_var (i := 1)) ev_int) es_nil)))))) (.cons (svs_one (sv_ret (ev_if (et_val (ev_call D_are_same (hr.mono (by decide)) (by rfl) (es_cons (ev_var (i := 3)) (es_cons (ev_ix (ev_var (i := 1)) ev_int) es_nil)))) (ev_call D_put_in (hr.mono (by decide)) (by rfl) (es_cons (ev_var (i := 0)) (es_cons (ev_var (i := 2)) (es_cons (ev_ix (ev_var (i := 1)) ev_int) (es_cons (ev_tup (es_cons ev_str es_nil)) es_nil))))) (ev_tup (es_cons (ev_var (i := 0)) (es_cons (ev_tup (es_cons ev_str (es_cons (ev_var (i := 3)) es_nil))) es_nil)))))) .nil)))))
    (svs_one (sv_ret (ev_tup (es_cons (ev_var (i := 0)) (es_cons (ev_tup (es_cons ev_str (es_cons (ev_var (i := 3)) es_nil))) es_nil))))))))
abbrev s_does_bar : Stmt := topS 43
abbrev N_does_bar : List Str := ["answer"]
theorem sc_does_bar : FnScope N_does_bar ["answer"] (defScope s_does_bar) := ⟨rfl, rfl, rfl, by decide +kernel, rfl, by decide +kernel, by decide +kernel⟩
def m_does_bar  : SM :=
  (sRet (eOr (e2 inD (eVar 0) (eC c_REFUSALS)) (e2 eqD2 (e2 ixD (eVar 0) (eC (.int 0))) (eC (.str "other")))))
theorem der_does_bar (T : Tx K mg)  {cdv : Value} {A : Around} {outer : List Env} {s : Shared} {H : Hp} {E : XK} {f : Addr}
    (hr : RoomG 0 (A.deeper (envOfC "does_bar" (defScope s_does_bar) s.heap.objs.size f cdv))) :
    SVs (cxOf (L2.CX P w) P w K mg base N_does_bar "does_bar" (defScope s_does_bar) f cdv A outer s H E) (defBody s_does_bar) (m_does_bar ) :=
  (svs_one (sv_ret (ev_or (ev_cmp (os_in hr.r) (ev_var (i := 0)) (ev_gcon (by rfl) T.k_REFUSALS)) (ev_one (ev_cmp (os_eq2 hr.r) (ev_ix (ev_var (i := 0)) ev_int) ev_str)))))
abbrev s_lot_in : Stmt := topS 44
abbrev N_lot_in : List Str := ["pairs", "lot", "here", "answers", "index", "deed", "answer"]
theorem sc_lot_in : FnScope N_lot_in ["pairs", "lot"] (defScope s_lot_in) := ⟨rfl, rfl, rfl, by decide +kernel, rfl, by decide +kernel, by decide +kernel⟩
def m_lot_in (sp_lot_deed_in : FSp) (sp_does_bar : FSp) : SM :=
  (sSeq (sParT [2, 3] (kVal (eVar 0) (kAcc (nLst esNil) kNil)))
    (sSeq (sFor (iEnumD (esCons (eVar 1) esNil)) (.tp [4, 5]) (sSeq (sAsg (.tp [2, 6]) (eCall sp_lot_deed_in (esCons (eVar 2) (esCons (eVar 5) esNil))))
    (sSeq (sIf (tB1 (eCall sp_does_bar (esCons (eVar 6) esNil))) (sRet (eTup (esCons (eVar 0) (esCons (eTup (esCons (eC (.str "none")) (esCons (eVar 4) esNil))) esNil)))) sNext)
    (sApp 3 (xV (eVar 6))))))
    (sRet (eTup (esCons (eVar 2) (esCons (eTup (esCons (eC (.str "done")) (esCons (eL tupleD (esCons (eVar 3) esNil)) esNil))) esNil))))))
theorem der_lot_in (T : Tx K mg) {sp_lot_deed_in : FSp} (D_lot_deed_in : Def P w K mg base "lot_deed_in" 4 sp_lot_deed_in) {sp_does_bar : FSp} (D_does_bar : Def P w K mg base "does_bar" 1 sp_does_bar) {cdv : Value} {A : Around} {outer : List Env} {s : Shared} {H : Hp} {E : XK} {f : Addr}
    (hr : RoomG 4 (A.deeper (envOfC "lot_in" (defScope s_lot_in) s.heap.objs.size f cdv))) :
    SVs (cxOf (L2.CX P w) P w K mg base N_lot_in "lot_in" (defScope s_lot_in) f cdv A outer s H E) (defBody s_lot_in) (m_lot_in sp_lot_deed_in sp_does_bar) :=
  (svs_cons (sv_par2 (i := 2) (j := 3) rfl sc_lot_in.nd (ek_val (ev_var (i := 0)) (ek_acc (en_lst es_nil) ek_nil)))
    (svs_cons (sv_for (passes_of rfl) rfl (ei_enumT (by rfl) T.b_enumerate (es_cons (ev_var (i := 1)) es_nil)) (eg_tp rfl (egs_cons (eg_nm sc_lot_in.nd) (egs_cons (eg_nm sc_lot_in.nd) egs_nil))) (svs_cons (sv_asg (eg_tp rfl (egs_cons (eg_nm sc_lot_in.nd) (egs_cons (eg_nm sc_lot_in.nd) egs_nil))) (ev_call D_lot_deed_in (hr.mono (by decide)) (by rfl) (es_cons (ev_var (i := 2)) (es_cons (ev_var (i := 5)) es_nil))))
    (svs_cons (sv_if (et_val (ev_call D_does_bar (hr.mono (by decide)) (by rfl) (es_cons (ev_var (i := 6)) es_nil))) (svs_one (sv_ret (ev_tup (es_cons (ev_var (i := 0)) (es_cons (ev_tup (es_cons ev_str (es_cons (ev_var (i := 4)) es_nil))) es_nil))))) svs_nil)
    (svs_one (sv_app (i := 3) (ex_v (ev_var (i := 6))))))))
    (svs_one (sv_ret (ev_tup (es_cons (ev_var (i := 2)) (es_cons (ev_tup (es_cons ev_str (es_cons (ev_callTy cs_tuple (by rfl) T.b_tuple PyProof.Rows.boot_tuple (es_cons (ev_var (i := 3)) es_nil)) es_nil))) es_nil)))))))
abbrev s_done_in : Stmt := topS 45
abbrev N_done_in : List Str := ["pairs", "deed", "key"]
theorem sc_done_in : FnScope N_done_in ["pairs", "deed"] (defScope s_done_in) := ⟨rfl, rfl, rfl, by decide +kernel, rfl, by decide +kernel, by decide +kernel⟩
def m_done_in (sp_lot_deed_in : FSp) (sp_lot_in : FSp) : SM :=
  (sSeq (sMatch (e2 ixD (eVar 1) (eC (.int 0))) [("list", (sRet (eTup (esCons (eVar 0) (esCons (eTup (esCons (eC (.str "rows")) (esCons (eL tupleD (esCons (eFz (nLc (iSeq (eFz (nL sortedD3 (esCons (eVar 0) esNil)))) (.nm 2) (tB1 (eChain leD ltD (e2 ixD (eVar 1) (eC (.int 1))) (eVar 2) (e2 ixD (eVar 1) (eC (.int 2))))) (eTup (esCons (eVar 2) (esCons (eDix (eVar 0) (eVar 2)) esNil))) [2])) esNil)) esNil))) esNil))))), ("all", (sRet (eCall sp_lot_in (esCons (eVar 0) (esCons (e2 ixD (eVar 1) (eC (.int 1))) esNil))))), ("circle", (sRet (eTup (esCons (eVar 0) (esCons (eTup (esCons (eC (.str "next")) (esCons (e2 ixD (eVar 1) (eC (.int 1))) esNil))) esNil)))))])
    (sRet (eCall sp_lot_deed_in (esCons (eVar 0) (esCons (eVar 1) esNil)))))
theorem der_done_in (T : Tx K mg) {sp_lot_deed_in : FSp} (D_lot_deed_in : Def P w K mg base "lot_deed_in" 4 sp_lot_deed_in) {sp_lot_in : FSp} (D_lot_in : Def P w K mg base "lot_in" 5 sp_lot_in) {cdv : Value} {A : Around} {outer : List Env} {s : Shared} {H : Hp} {E : XK} {f : Addr}
    (hr : RoomG 5 (A.deeper (envOfC "done_in" (defScope s_done_in) s.heap.objs.size f cdv))) :
    SVs (cxOf (L2.CX P w) P w K mg base N_done_in "done_in" (defScope s_done_in) f cdv A outer s H E) (defBody s_done_in) (m_done_in sp_lot_deed_in sp_lot_in) :=
  (svs_cons (sv_match (ev_ix (ev_var (i := 1)) ev_int) (.cons (svs_one (sv_ret (ev_tup (es_cons (ev_var (i := 0)) (es_cons (ev_tup (es_cons ev_str (es_cons (ev_callTy cs_tuple (by rfl) T.b_tuple PyProof.Rows.boot_tuple (es_cons (ev_fz (en_lc rfl sc_done_in.nd (by exact (ei_seq (ev_fz (en_callB (cn_sortedD3 rfl) (by rfl) T.b_sorted PyProof.Rows.boot_sorted (es_cons (ev_var (i := 0)) es_nil))))) (blkOk_by (own := [("key", 2)]) (by kernel_rfl)) (fun _ _ _ _ _ => (eg_nm sc_done_in.nd)) (fun _ _ _ _ _ => (ets_one (et_chain os_leD os_ltD (ev_ix (ev_var (i := 1)) ev_int) (ev_var (i := 2)) (ev_ix (ev_var (i := 1)) ev_int)))) (fun _ _ _ _ _ => (ev_tup (es_cons (ev_var (i := 2)) (es_cons (ev_dix hr.r (ev_var (i := 0)) (ev_var (i := 2))) es_nil)))))) es_nil)) es_nil))) es_nil))))) (.cons (svs_one (sv_ret (ev_call D_lot_in (hr.mono (by decide)) (by rfl) (es_cons (ev_var (i := 0)) (es_cons (ev_ix (ev_var (i := 1)) ev_int) es_nil))))) (.cons (svs_one (sv_ret (ev_tup (es_cons (ev_var (i := 0)) (es_cons (ev_tup (es_cons ev_str (es_cons (ev_ix (ev_var (i := 1)) ev_int) es_nil))) es_nil))))) .nil))))
    (svs_one (sv_ret (ev_call D_lot_deed_in (hr.mono (by decide)) (by rfl) (es_cons (ev_var (i := 0)) (es_cons (ev_var (i := 1)) es_nil))))))
abbrev s_ascending_pairs : Stmt := topS 46
abbrev N_ascending_pairs : List Str := ["pairs", "key"]
theorem sc_ascending_pairs : FnScope N_ascending_pairs ["pairs"] (defScope s_ascending_pairs) := ⟨rfl, rfl, rfl, by decide +kernel, rfl, by decide +kernel, by decide +kernel⟩
def m_ascending_pairs  : SM :=
  (sRet (eDfz (dDc (iSeq (eFz (nL sortedD3 (esCons (eVar 0) esNil)))) (.nm 1) tTrue (eVar 1) (eDix (eVar 0) (eVar 1)) [1])))
theorem der_ascending_pairs (T : Tx K mg)  {cdv : Value} {A : Around} {outer : List Env} {s : Shared} {H : Hp} {E : XK} {f : Addr}
    (hr : RoomG 0 (A.deeper (envOfC "ascending_pairs" (defScope s_ascending_pairs) s.heap.objs.size f cdv))) :
    SVs (cxOf (L2.CX P w) P w K mg base N_ascending_pairs "ascending_pairs" (defScope s_ascending_pairs) f cdv A outer s H E) (defBody s_ascending_pairs) (m_ascending_pairs ) :=
  (svs_one (sv_ret (ev_dfz (ed_dc rfl sc_ascending_pairs.nd (by exact (ei_seq (ev_fz (en_callB (cn_sortedD3 rfl) (by rfl) T.b_sorted PyProof.Rows.boot_sorted (es_cons (ev_var (i := 0)) es_nil))))) (blkOk_by (own := [("key", 1)]) (by kernel_rfl)) (fun _ _ _ _ _ => (eg_nm sc_ascending_pairs.nd)) (fun _ _ _ _ _ => ets_nil) (fun _ _ _ _ _ => (ev_var (i := 1))) (fun _ _ _ _ _ => (ev_dix hr.r (ev_var (i := 0)) (ev_var (i := 1))))))))
abbrev s_done : Stmt := topS 51
abbrev N_done : List Str := ["pairs", "deed"]
theorem sc_done : FnScope N_done ["pairs", "deed"] (defScope s_done) := ⟨rfl, rfl, rfl, by decide +kernel, rfl, by decide +kernel, by decide +kernel⟩
def m_done (sp_require_pairs : FSp) (sp_require_deed : FSp) (sp_done_in : FSp) (sp_ascending_pairs : FSp) : SM :=
  (sSeq (sDrop (eCall sp_require_pairs (esCons (eVar 0) esNil)))
    (sSeq (sDrop (eCall sp_require_deed (esCons (eVar 1) esNil)))
    (sRet (eCall sp_done_in (esCons (eCall sp_ascending_pairs (esCons (eVar 0) esNil)) (esCons (eVar 1) esNil))))))
theorem der_done (T : Tx K mg) {sp_require_pairs : FSp} (D_require_pairs : Def P w K mg base "require_pairs" 5 sp_require_pairs) {sp_require_deed : FSp} (D_require_deed : Def P w K mg base "require_deed" 8 sp_require_deed) {sp_done_in : FSp} (D_done_in : Def P w K mg base "done_in" 6 sp_done_in) {sp_ascending_pairs : FSp} (D_ascending_pairs : Def P w K mg base "ascending_pairs" 1 sp_ascending_pairs) {cdv : Value} {A : Around} {outer : List Env} {s : Shared} {H : Hp} {E : XK} {f : Addr}
    (hr : RoomG 8 (A.deeper (envOfC "done" (defScope s_done) s.heap.objs.size f cdv))) :
    SVs (cxOf (L2.CX P w) P w K mg base N_done "done" (defScope s_done) f cdv A outer s H E) (defBody s_done) (m_done sp_require_pairs sp_require_deed sp_done_in sp_ascending_pairs) :=
  (svs_cons (sv_expr (ev_call D_require_pairs (hr.mono (by decide)) (by rfl) (es_cons (ev_var (i := 0)) es_nil)))
    (svs_cons (sv_expr (ev_call D_require_deed (hr.mono (by decide)) (by rfl) (es_cons (ev_var (i := 1)) es_nil)))
    (svs_one (sv_ret (ev_call D_done_in (hr.mono (by decide)) (by rfl) (es_cons (ev_call D_ascending_pairs (hr.mono (by decide)) (by rfl) (es_cons (ev_var (i := 0)) es_nil)) (es_cons (ev_var (i := 1)) es_nil)))))))
abbrev s_run_deeds : Stmt := topS 52
abbrev N_run_deeds : List Str := ["pairs", "deeds", "here", "answers", "deed", "answer"]
theorem sc_run_deeds : FnScope N_run_deeds ["pairs", "deeds"] (defScope s_run_deeds) := ⟨rfl, rfl, rfl, by decide +kernel, rfl, by decide +kernel, by decide +kernel⟩
def m_run_deeds (sp_require_pairs : FSp) (sp_ascending_pairs : FSp) (sp_done_in : FSp) (sp_is_deed : FSp) : SM :=
  (sSeq (sDrop (eCall sp_require_pairs (esCons (eVar 0) esNil)))
    (sSeq (sIf (tOr1 (tNot1 (tB1 (e1 (isiD .tuple) (eVar 1)))) (tNot1 (tB1 (eL allD (esCons (eFz (nLc (iSeq (eVar 1)) (.nm 4) tTrue (eCall sp_is_deed (esCons (eVar 4) esNil)) [4])) esNil))))) (sRaise C_InvalidDeed (eC (.str "a tuple of deeds is expected"))) sNext)
    (sSeq (sParT [2, 3] (kVal (eCall sp_ascending_pairs (esCons (eVar 0) esNil)) (kAcc (nLst esNil) kNil)))
    (sSeq (sFor (iSeq (eVar 1)) (.nm 4) (sSeq (sAsg (.tp [2, 5]) (eCall sp_done_in (esCons (eVar 2) (esCons (eVar 4) esNil))))
    (sApp 3 (xV (eVar 5)))))
    (sRet (eTup (esCons (eVar 2) (esCons (eL tupleD (esCons (eVar 3) esNil)) esNil))))))))
theorem der_run_deeds (T : Tx K mg) {sp_require_pairs : FSp} (D_require_pairs : Def P w K mg base "require_pairs" 5 sp_require_pairs) {sp_ascending_pairs : FSp} (D_ascending_pairs : Def P w K mg base "ascending_pairs" 1 sp_ascending_pairs) {sp_done_in : FSp} (D_done_in : Def P w K mg base "done_in" 6 sp_done_in) {sp_is_deed : FSp} (D_is_deed : Def P w K mg base "is_deed" 7 sp_is_deed) {cdv : Value} {A : Around} {outer : List Env} {s : Shared} {H : Hp} {E : XK} {f : Addr}
    (hr : RoomG 7 (A.deeper (envOfC "run_deeds" (defScope s_run_deeds) s.heap.objs.size f cdv))) :
    SVs (cxOf (L2.CX P w) P w K mg base N_run_deeds "run_deeds" (defScope s_run_deeds) f cdv A outer s H E) (defBody s_run_deeds) (m_run_deeds sp_require_pairs sp_ascending_pairs sp_done_in sp_is_deed) :=
  (svs_cons (sv_expr (ev_call D_require_pairs (hr.mono (by decide)) (by rfl) (es_cons (ev_var (i := 0)) es_nil)))
    (svs_cons (sv_if (et_w (ew_or (et_not (et_val (ev_isi .tuple (by rfl) T.b_isinstance (by rfl) T.b_tuple (by decide +kernel) (ev_var (i := 1))))) (ew_or1 (et_not (et_val (ev_callB (cs_all rfl) (by rfl) T.b_all PyProof.Rows.boot_all (es_cons (ev_fz (en_lc rfl sc_run_deeds.nd (by exact (ei_seq (ev_var (i := 1)))) (blkOk_by (own := [("deed", 4)]) (by kernel_rfl)) (fun _ _ _ _ _ => (eg_nm sc_run_deeds.nd)) (fun _ _ _ _ _ => ets_nil) (fun _ _ _ _ _ => (ev_call D_is_deed (hr.mono (by decide)) (by rfl) (es_cons (ev_var (i := 4)) es_nil))))) es_nil))))))) (svs_one (sv_raise rfl T.rai_InvalidDeed (by rfl) T.n_InvalidDeed ev_str)) svs_nil)
    (svs_cons (sv_par2 (i := 2) (j := 3) rfl sc_run_deeds.nd (ek_val (ev_call D_ascending_pairs (hr.mono (by decide)) (by rfl) (es_cons (ev_var (i := 0)) es_nil)) (ek_acc (en_lst es_nil) ek_nil)))
    (svs_cons (sv_for (passes_of rfl) rfl (ei_seq (ev_var (i := 1))) (eg_nm sc_run_deeds.nd) (svs_cons (sv_asg (eg_tp rfl (egs_cons (eg_nm sc_run_deeds.nd) (egs_cons (eg_nm sc_run_deeds.nd) egs_nil))) (ev_call D_done_in (hr.mono (by decide)) (by rfl) (es_cons (ev_var (i := 2)) (es_cons (ev_var (i := 4)) es_nil))))
    (svs_one (sv_app (i := 3) (ex_v (ev_var (i := 5)))))))
    (svs_one (sv_ret (ev_tup (es_cons (ev_var (i := 2)) (es_cons (ev_callTy cs_tuple (by rfl) T.b_tuple PyProof.Rows.boot_tuple (es_cons (ev_var (i := 3)) es_nil)) es_nil)))))))))
abbrev s_is_read : Stmt := topS 49
abbrev N_is_read : List Str := ["deed"]
theorem sc_is_read : FnScope N_is_read ["deed"] (defScope s_is_read) := ⟨rfl, rfl, rfl, by decide +kernel, rfl, by decide +kernel, by decide +kernel⟩
def m_is_read (sp_require_deed : FSp) : SM :=
  (sSeq (sDrop (eCall sp_require_deed (esCons (eVar 0) esNil)))
    (sRet (e2 inD (e2 ixD (eVar 0) (eC (.int 0))) (eC c_READ_WORDS))))
theorem der_is_read (T : Tx K mg) {sp_require_deed : FSp} (D_require_deed : Def P w K mg base "require_deed" 8 sp_require_deed) {cdv : Value} {A : Around} {outer : List Env} {s : Shared} {H : Hp} {E : XK} {f : Addr}
    (hr : RoomG 8 (A.deeper (envOfC "is_read" (defScope s_is_read) s.heap.objs.size f cdv))) :
    SVs (cxOf (L2.CX P w) P w K mg base N_is_read "is_read" (defScope s_is_read) f cdv A outer s H E) (defBody s_is_read) (m_is_read sp_require_deed) :=
  (svs_cons (sv_expr (ev_call D_require_deed (hr.mono (by decide)) (by rfl) (es_cons (ev_var (i := 0)) es_nil)))
    (svs_one (sv_ret (ev_cmp (os_in hr.r) (ev_ix (ev_var (i := 0)) ev_int) (ev_gcon (by rfl) T.k_READ_WORDS)))))
abbrev s_keys_of : Stmt := topS 50
abbrev N_keys_of : List Str := ["deed", "some", "one"]
theorem sc_keys_of : FnScope N_keys_of ["deed"] (defScope s_keys_of) := ⟨rfl, rfl, rfl, by decide +kernel, rfl, by decide +kernel, by decide +kernel⟩
def m_keys_of (sp_require_deed : FSp) : SM :=
  (sSeq (sDrop (eCall sp_require_deed (esCons (eVar 0) esNil)))
    (sSeq (sIf (tB1 (e2 inD (e2 ixD (eVar 0) (eC (.int 0))) (eTup (esCons (eC (.str "list")) (esCons (eC (.str "circle")) esNil))))) (sRet (eTup esNil)) sNext)
    (sSeq (sSet 1 (eIf (tB1 (e2 eqD2 (e2 ixD (eVar 0) (eC (.int 0))) (eC (.str "all")))) (e2 ixD (eVar 0) (eC (.int 1))) (eTup (esCons (eVar 0) esNil))))
    (sRet (eL tupleD (esCons (eFz (nL sortedD3 (esCons (eDfz (dDc (iSeq (eVar 1)) (.nm 2) tTrue (e2 ixD (eVar 2) (eC (.int 1))) (eC (.bl true)) [2])) esNil))) esNil))))))
theorem der_keys_of (T : Tx K mg) {sp_require_deed : FSp} (D_require_deed : Def P w K mg base "require_deed" 8 sp_require_deed) {cdv : Value} {A : Around} {outer : List Env} {s : Shared} {H : Hp} {E : XK} {f : Addr}
    (hr : RoomG 8 (A.deeper (envOfC "keys_of" (defScope s_keys_of) s.heap.objs.size f cdv))) :
    SVs (cxOf (L2.CX P w) P w K mg base N_keys_of "keys_of" (defScope s_keys_of) f cdv A outer s H E) (defBody s_keys_of) (m_keys_of sp_require_deed) :=
  (svs_cons (sv_expr (ev_call D_require_deed (hr.mono (by decide)) (by rfl) (es_cons (ev_var (i := 0)) es_nil)))
    (svs_cons (sv_if (et_cmp (os_in hr.r) (ev_ix (ev_var (i := 0)) ev_int) (ev_tup (es_cons ev_str (es_cons ev_str es_nil)))) (svs_one (sv_ret (ev_tup es_nil))) svs_nil)
    (svs_cons (sv_set (i := 1) sc_keys_of.nd (ev_if (et_cmp (os_eq2 hr.r) (ev_ix (ev_var (i := 0)) ev_int) ev_str) (ev_ix (ev_var (i := 0)) ev_int) (ev_tup (es_cons (ev_var (i := 0)) es_nil))))
    (svs_one (sv_ret (ev_callTy cs_tuple (by rfl) T.b_tuple PyProof.Rows.boot_tuple (es_cons (ev_fz (en_callB (cn_sortedD3 rfl) (by rfl) T.b_sorted PyProof.Rows.boot_sorted (es_cons (ev_dfz (ed_dc rfl sc_keys_of.nd (by exact (ei_seq (ev_var (i := 1)))) (blkOk_by (own := [("one", 2)]) (by kernel_rfl)) (fun _ _ _ _ _ => (eg_nm sc_keys_of.nd)) (fun _ _ _ _ _ => ets_nil) (fun _ _ _ _ _ => (ev_ix (ev_var (i := 2)) ev_int)) (fun _ _ _ _ _ => ev_bl))) es_nil))) es_nil)))))))
abbrev s__law_right : Stmt := topS 58
abbrev N__law_right : List Str := ["_law_dice_here", "_law_wrong", "_law_pairs", "_law_some", "_law_deed", "_law_row", "_law_told", "_law_due", "_law_sign", "_law_word"]
theorem sc__law_right : FnScope N__law_right ["_law_dice_here"] (defScope s__law_right) := ⟨rfl, rfl, rfl, by decide +kernel, rfl, by decide +kernel, by decide +kernel⟩
def m__law_right (sp__law_pick : FSp) (sp_is_deed : FSp) (sp_done : FSp) (sp_run_deeds : FSp) (sp_is_read : FSp) (sp_keys_of : FSp) : SM :=
  (sSeq (sSet 1 (eFz (nLst (esCons (eC .non) (esCons (eC (.int 5)) (esCons (eTup esNil) (esCons (eFz (nLst (esCons (eTup (esCons (eC (.str "a")) (esCons (eC (.int 1)) esNil))) esNil))) (esCons (eDisp (pCons (eC (.str "A")) (eC (.int 1)) pNil)) (esCons (eDisp (pCons (eC (.str "")) (eC (.int 1)) pNil)) (esCons (eDisp (pCons (eC (.str "a")) (eC .non) pNil)) (esCons (eDisp (pCons (eC (.str "a")) (eC (.bl true)) pNil)) (esCons (eDisp (pCons (eC (.str "a")) (eC (.int 1000000000000)) pNil)) (esCons (eDisp (pCons (eC (.str "a")) (eC (.str "A")) pNil)) (esCons (eDisp (pCons (eC (.int 1)) (eC (.int 1)) pNil)) (esCons (eDisp (pCons (eC (.str "a")) (eTup (esCons (eC (.int 1)) esNil)) pNil)) (esCons (eC (.str "pairs")) (esCons (eC (.bl true)) esNil)))))))))))))))))
    (sSeq (sSet 2 (eCall sp__law_pick (esCons (eVar 0) (esCons (e2 addD (eVar 1) (eFz (nLst (esCons (eL dictD2 (esCons (eFz (nLc (iSeq (eC (.str "abcdefghijklmnopqrstuvwxy"))) (.nm 8) tTrue (eTup (esCons (e2 addD (eC (.str "k")) (eVar 8)) (esCons (eC (.int 1)) esNil))) [8])) esNil)) (esCons (eDisp (pCons (eC (.str "abcdefghi")) (eC (.int 1)) pNil)) esNil))))) esNil))))
    (sSeq (sSet 3 (eFz (nLst (esCons (eC .non) (esCons (eC (.int 3)) (esCons (eC (.str "get")) (esCons (eTup (esCons (eC (.str "get")) esNil)) (esCons (eTup (esCons (eC (.str "get")) (esCons (eC (.str "A")) esNil))) (esCons (eFz (nLst (esCons (eC (.str "get")) (esCons (eC (.str "a")) esNil)))) (esCons (eTup (esCons (eC (.str "put")) (esCons (eC (.str "a")) esNil))) (esCons (eTup (esCons (eC (.str "put")) (esCons (eC (.str "a")) (esCons (eC .non) esNil)))) (esCons (eTup (esCons (eC (.str "swap")) (esCons (eC (.str "a")) (esCons (eC (.int 1)) esNil)))) (esCons (eTup (esCons (eC (.str "all")) (esCons (eTup esNil) esNil))) (esCons (eTup (esCons (eC (.str "circle")) (esCons (eTup (esCons (eC (.int 1)) (esCons (eC (.int 0)) esNil))) esNil))) (esCons (eC (.dic [] [])) esNil)))))))))))))))
    (sSeq (sSet 4 (eCall sp__law_pick (esCons (eVar 0) (esCons (e2 addD (eVar 3) (eFz (nLst (esCons (eTup (esCons (eC (.str "list")) (esCons (eC (.str "a")) esNil))) (esCons (eTup (esCons (eC (.str "add")) (esCons (eC (.str "a")) (esCons (eC (.str "x")) esNil)))) (esCons (eTup (esCons (eC (.str "GET")) (esCons (eC (.str "a")) esNil))) (esCons (eTup (esCons (eC (.bl true)) (esCons (eC (.str "a")) esNil))) (esCons (eTup (esCons (eC (.str "put")) (esCons (eC (.str "a")) (esCons (eC (.int 1000000000000000000000000000000000000000000000000000000000000)) esNil)))) esNil)))))))) esNil))))
    (sSeq (sSet 5 (eCall sp__law_pick (esCons (eVar 0) (esCons (eFz (nLst (esCons (eC .non) (esCons (eTup (esCons (eC (.str "get")) (esCons (eC (.str "a")) esNil))) (esCons (eFz (nLst (esCons (eTup (esCons (eC (.str "get")) (esCons (eC (.str "a")) esNil))) esNil))) (esCons (eTup (esCons (eVar 4) esNil)) (esCons (eTup (esCons (eTup (esCons (eC (.str "get")) (esCons (eC (.str "a")) esNil))) (esCons (eVar 4) esNil))) (esCons (eC (.dic [] [])) (esCons (eC (.str "row")) (esCons (eC (.int 7)) esNil)))))))))) esNil))))
    (sSeq (sSetN 6 (nLst (esCons (eLam P__law_right "_law_right.<locals>.<lambda>" N__law_met SX l__law_met mr__law_met (eCall sp_done (esCons (eVar 2) (esCons (eVar 4) esNil)))) esNil)))
    (sSeq (sApp 6 (xV (eLam P__law_right "_law_right.<locals>.<lambda>" N__law_met SX l__law_met mr__law_met (eCall sp_done (esCons (eVar 2) (esCons (eTup (esCons (eC (.str "get")) (esCons (eC (.str "a")) esNil))) esNil))))))
    (sSeq (sApp 6 (xV (eLam P__law_right "_law_right.<locals>.<lambda>" N__law_met SX l__law_met mr__law_met (eCall sp_done (esCons (eDisp (pCons (eC (.str "a")) (eC (.int 1)) pNil)) (esCons (eVar 4) esNil))))))
    (sSeq (sApp 6 (xV (eLam P__law_right "_law_right.<locals>.<lambda>" N__law_met SX l__law_met mr__law_met (eCall sp_run_deeds (esCons (eVar 2) (esCons (eVar 5) esNil))))))
    (sSeq (sApp 6 (xV (eLam P__law_right "_law_right.<locals>.<lambda>" N__law_met SX l__law_met mr__law_met (eCall sp_run_deeds (esCons (eC (.dic [] [])) (esCons (eVar 5) esNil))))))
    (sSeq (sApp 6 (xV (eLam P__law_right "_law_right.<locals>.<lambda>" N__law_met SX l__law_met mr__law_met (eCall sp_is_read (esCons (eVar 4) esNil)))))
    (sSeq (sApp 6 (xV (eLam P__law_right "_law_right.<locals>.<lambda>" N__law_met SX l__law_met mr__law_met (eCall sp_keys_of (esCons (eVar 4) esNil)))))
    (sSeq (sSet 7 (eFz (nLst (esCons (eC (.str "state")) (esCons (eC (.str "state")) (esCons (eC (.str "deed")) (esCons (eC (.str "state")) (esCons (eC (.str "deed")) (esCons (eC (.str "deed")) (esCons (eC (.str "deed")) esNil))))))))))
    (sRet (eAnd (e2 eqD2 (eVar 6) (eFz (nLc (iSeq (eVar 7)) (.nm 9) tTrue (eTup (esCons (eC (.str "refused")) (esCons (eVar 9) esNil))) [9]))) (eAnd (e2 isB (eCall sp_is_deed (esCons (eVar 4) esNil)) (eC (.bl false))) (e2 isB (eCall sp_is_deed (esCons (eVar 2) esNil)) (eC (.bl false)))))))))))))))))))
theorem der__law_right (T : Tx K mg) (TB : LamX.TabB base mg O__law_right P__law_right) {sp__law_pick : FSp} (D__law_pick : Def P w K mg base "_law_pick" 2 sp__law_pick) {sp_is_deed : FSp} (D_is_deed : Def P w K mg base "is_deed" 7 sp_is_deed) {sp_done : FSp} (D_done : Def P w K mg base "done" 9 sp_done) {sp_run_deeds : FSp} (D_run_deeds : Def P w K mg base "run_deeds" 8 sp_run_deeds) {sp_is_read : FSp} (D_is_read : Def P w K mg base "is_read" 9 sp_is_read) {sp_keys_of : FSp} (D_keys_of : Def P w K mg base "keys_of" 9 sp_keys_of) {A : Around} {outer : List Env} {s : Shared} {H : Hp} {E : XK} {f : Addr}
    (hr : RoomG 12 (A.deeper (envOfC "_law_right" (defScope s__law_right) s.heap.objs.size f (.ref O__law_right)))) :
    SVs (cxOf (L2.CX P w) P w K mg base N__law_right "_law_right" (defScope s__law_right) f (.ref O__law_right) A outer s H E) (defBody s__law_right) (m__law_right sp__law_pick sp_is_deed sp_done sp_run_deeds sp_is_read sp_keys_of) :=
  (svs_cons (sv_set (i := 1) sc__law_right.nd (ev_fz (en_lst (es_cons ev_non (es_cons ev_int (es_cons (ev_tup es_nil) (es_cons (ev_fz (en_lst (es_cons (ev_tup (es_cons ev_str (es_cons ev_int es_nil))) es_nil))) (es_cons (ev_disp (epr_cons ev_str ev_int epr_nil)) (es_cons (ev_disp (epr_cons ev_str ev_int epr_nil)) (es_cons (ev_disp (epr_cons ev_str ev_non epr_nil)) (es_cons (ev_disp (epr_cons ev_str ev_bl epr_nil)) (es_cons (ev_disp (epr_cons ev_str (ev_fold (.int 1000000000000) (ev_bin os_pow ev_int ev_int) (by intro ρ g Q E q; simpa using q)) epr_nil)) (es_cons (ev_disp (epr_cons ev_str ev_str epr_nil)) (es_cons (ev_disp (epr_cons ev_int ev_int epr_nil)) (es_cons (ev_disp (epr_cons ev_str (ev_tup (es_cons ev_int es_nil)) epr_nil)) (es_cons ev_str (es_cons ev_bl es_nil)))))))))))))))))
    (svs_cons (sv_set (i := 2) sc__law_right.nd (ev_call D__law_pick (hr.mono (by decide)) (by rfl) (es_cons (ev_var (i := 0)) (es_cons (ev_bin os_addD (ev_var (i := 1)) (ev_fz (en_lst (es_cons (ev_callTy (cs_dict2 rfl) (by rfl) T.b_dict (by decide +kernel) (es_cons (ev_fz (en_lc rfl sc__law_right.nd (by exact (ei_seq ev_str)) (blkOk_by (own := [("_law_sign", 8)]) (by kernel_rfl)) (fun _ _ _ _ _ => (eg_nm sc__law_right.nd)) (fun _ _ _ _ _ => ets_nil) (fun _ _ _ _ _ => (ev_tup (es_cons (ev_bin os_addD ev_str (ev_var (i := 8))) (es_cons ev_int es_nil)))))) es_nil)) (es_cons (ev_disp (epr_cons ev_str ev_int epr_nil)) es_nil))))) es_nil))))
    (svs_cons (sv_set (i := 3) sc__law_right.nd (ev_fz (en_lst (es_cons ev_non (es_cons ev_int (es_cons ev_str (es_cons (ev_tup (es_cons ev_str es_nil)) (es_cons (ev_tup (es_cons ev_str (es_cons ev_str es_nil))) (es_cons (ev_fz (en_lst (es_cons ev_str (es_cons ev_str es_nil)))) (es_cons (ev_tup (es_cons ev_str (es_cons ev_str es_nil))) (es_cons (ev_tup (es_cons ev_str (es_cons ev_str (es_cons ev_non es_nil)))) (es_cons (ev_tup (es_cons ev_str (es_cons ev_str (es_cons ev_int es_nil)))) (es_cons (ev_tup (es_cons ev_str (es_cons (ev_tup es_nil) es_nil))) (es_cons (ev_tup (es_cons ev_str (es_cons (ev_tup (es_cons ev_int (es_cons ev_int es_nil))) es_nil))) (es_cons ev_disp0 es_nil)))))))))))))))
    (svs_cons (sv_set (i := 4) sc__law_right.nd (ev_call D__law_pick (hr.mono (by decide)) (by rfl) (es_cons (ev_var (i := 0)) (es_cons (ev_bin os_addD (ev_var (i := 3)) (ev_fz (en_lst (es_cons (ev_tup (es_cons ev_str (es_cons ev_str es_nil))) (es_cons (ev_tup (es_cons ev_str (es_cons ev_str (es_cons ev_str es_nil)))) (es_cons (ev_tup (es_cons ev_str (es_cons ev_str es_nil))) (es_cons (ev_tup (es_cons ev_bl (es_cons ev_str es_nil))) (es_cons (ev_tup (es_cons ev_str (es_cons ev_str (es_cons (ev_fold (.int 1000000000000000000000000000000000000000000000000000000000000) (ev_bin os_pow ev_int ev_int) (by intro ρ g Q E q; simpa using q)) es_nil)))) es_nil)))))))) es_nil))))
    (svs_cons (sv_set (i := 5) sc__law_right.nd (ev_call D__law_pick (hr.mono (by decide)) (by rfl) (es_cons (ev_var (i := 0)) (es_cons (ev_fz (en_lst (es_cons ev_non (es_cons (ev_tup (es_cons ev_str (es_cons ev_str es_nil))) (es_cons (ev_fz (en_lst (es_cons (ev_tup (es_cons ev_str (es_cons ev_str es_nil))) es_nil))) (es_cons (ev_tup (es_cons (ev_var (i := 4)) es_nil)) (es_cons (ev_tup (es_cons (ev_tup (es_cons ev_str (es_cons ev_str es_nil))) (es_cons (ev_var (i := 4)) es_nil))) (es_cons ev_disp0 (es_cons ev_str (es_cons ev_int es_nil)))))))))) es_nil))))
    (svs_cons (sv_setN (i := 6) sc__law_right.nd (en_lst (es_cons (ev_lamM (c := O__law_right) (P := P__law_right) (q := "_law_right.<locals>.<lambda>") 9 (sx_of T.xm) T.met__law_met (by rfl) sc__law_met (by rfl) (by first | exact .inl (by rfl) | exact .inr (.inl (by rfl))) (by rfl) (fun _ _ _ _ _ _ => hds__law_met T) (fun _ _ _ _ _ _ => rest__law_met T) TB (by rfl) (by rfl) (hr.mono (by decide)) (LamX.lamS_by (by kernel_rfl)) (by rfl) (fun _ _ _ _ _ => by rfl)
      (fun A outer s H E f c hr => (ev_call D_done (hr.mono (by decide)) (by rfl) (es_cons (ev_var (i := 2)) (es_cons (ev_var (i := 4)) es_nil))))) es_nil)))
    (svs_cons (sv_app (i := 6) (ex_v (ev_lamM (c := O__law_right) (P := P__law_right) (q := "_law_right.<locals>.<lambda>") 9 (sx_of T.xm) T.met__law_met (by rfl) sc__law_met (by rfl) (by first | exact .inl (by rfl) | exact .inr (.inl (by rfl))) (by rfl) (fun _ _ _ _ _ _ => hds__law_met T) (fun _ _ _ _ _ _ => rest__law_met T) TB (by rfl) (by rfl) (hr.mono (by decide)) (LamX.lamS_by (by kernel_rfl)) (by rfl) (fun _ _ _ _ _ => by rfl)
      (fun A outer s H E f c hr => (ev_call D_done (hr.mono (by decide)) (by rfl) (es_cons (ev_var (i := 2)) (es_cons (ev_tup (es_cons ev_str (es_cons ev_str es_nil))) es_nil)))))))
    (svs_cons (sv_app (i := 6) (ex_v (ev_lamM (c := O__law_right) (P := P__law_right) (q := "_law_right.<locals>.<lambda>") 9 (sx_of T.xm) T.met__law_met (by rfl) sc__law_met (by rfl) (by first | exact .inl (by rfl) | exact .inr (.inl (by rfl))) (by rfl) (fun _ _ _ _ _ _ => hds__law_met T) (fun _ _ _ _ _ _ => rest__law_met T) TB (by rfl) (by rfl) (hr.mono (by decide)) (LamX.lamS_by (by kernel_rfl)) (by rfl) (fun _ _ _ _ _ => by rfl)
      (fun A outer s H E f c hr => (ev_call D_done (hr.mono (by decide)) (by rfl) (es_cons (ev_disp (epr_cons ev_str ev_int epr_nil)) (es_cons (ev_var (i := 4)) es_nil)))))))
    (svs_cons (sv_app (i := 6) (ex_v (ev_lamM (c := O__law_right) (P := P__law_right) (q := "_law_right.<locals>.<lambda>") 9 (sx_of T.xm) T.met__law_met (by rfl) sc__law_met (by rfl) (by first | exact .inl (by rfl) | exact .inr (.inl (by rfl))) (by rfl) (fun _ _ _ _ _ _ => hds__law_met T) (fun _ _ _ _ _ _ => rest__law_met T) TB (by rfl) (by rfl) (hr.mono (by decide)) (LamX.lamS_by (by kernel_rfl)) (by rfl) (fun _ _ _ _ _ => by rfl)
      (fun A outer s H E f c hr => (ev_call D_run_deeds (hr.mono (by decide)) (by rfl) (es_cons (ev_var (i := 2)) (es_cons (ev_var (i := 5)) es_nil)))))))
    (svs_cons (sv_app (i := 6) (ex_v (ev_lamM (c := O__law_right) (P := P__law_right) (q := "_law_right.<locals>.<lambda>") 9 (sx_of T.xm) T.met__law_met (by rfl) sc__law_met (by rfl) (by first | exact .inl (by rfl) | exact .inr (.inl (by rfl))) (by rfl) (fun _ _ _ _ _ _ => hds__law_met T) (fun _ _ _ _ _ _ => rest__law_met T) TB (by rfl) (by rfl) (hr.mono (by decide)) (LamX.lamS_by (by kernel_rfl)) (by rfl) (fun _ _ _ _ _ => by rfl)
      (fun A outer s H E f c hr => (ev_call D_run_deeds (hr.mono (by decide)) (by rfl) (es_cons ev_disp0 (es_cons (ev_var (i := 5)) es_nil)))))))
    (svs_cons (sv_app (i := 6) (ex_v (ev_lamM (c := O__law_right) (P := P__law_right) (q := "_law_right.<locals>.<lambda>") 9 (sx_of T.xm) T.met__law_met (by rfl) sc__law_met (by rfl) (by first | exact .inl (by rfl) | exact .inr (.inl (by rfl))) (by rfl) (fun _ _ _ _ _ _ => hds__law_met T) (fun _ _ _ _ _ _ => rest__law_met T) TB (by rfl) (by rfl) (hr.mono (by decide)) (LamX.lamS_by (by kernel_rfl)) (by rfl) (fun _ _ _ _ _ => by rfl)
      (fun A outer s H E f c hr => (ev_call D_is_read (hr.mono (by decide)) (by rfl) (es_cons (ev_var (i := 4)) es_nil))))))
    (svs_cons (sv_app (i := 6) (ex_v (ev_lamM (c := O__law_right) (P := P__law_right) (q := "_law_right.<locals>.<lambda>") 9 (sx_of T.xm) T.met__law_met (by rfl) sc__law_met (by rfl) (by first | exact .inl (by rfl) | exact .inr (.inl (by rfl))) (by rfl) (fun _ _ _ _ _ _ => hds__law_met T) (fun _ _ _ _ _ _ => rest__law_met T) TB (by rfl) (by rfl) (hr.mono (by decide)) (LamX.lamS_by (by kernel_rfl)) (by rfl) (fun _ _ _ _ _ => by rfl)
      (fun A outer s H E f c hr => (ev_call D_keys_of (hr.mono (by decide)) (by rfl) (es_cons (ev_var (i := 4)) es_nil))))))
    (svs_cons (sv_set (i := 7) sc__law_right.nd (ev_fz (en_lst (es_cons ev_str (es_cons ev_str (es_cons ev_str (es_cons ev_str (es_cons ev_str (es_cons ev_str (es_cons ev_str es_nil))))))))))
    (svs_one (sv_ret (ev_and (ev_cmp (os_eq2 hr.r) (ev_var (i := 6)) (ev_fz (en_lc rfl sc__law_right.nd (by exact (ei_seq (ev_var (i := 7)))) (blkOk_by (own := [("_law_word", 9)]) (by kernel_rfl)) (fun _ _ _ _ _ => (eg_nm sc__law_right.nd)) (fun _ _ _ _ _ => ets_nil) (fun _ _ _ _ _ => (ev_tup (es_cons ev_str (es_cons (ev_var (i := 9)) es_nil))))))) (ev_and (ev_cmp os_isB (ev_call D_is_deed (hr.mono (by decide)) (by rfl) (es_cons (ev_var (i := 4)) es_nil)) ev_bl) (ev_one (ev_cmp os_isB (ev_call D_is_deed (hr.mono (by decide)) (by rfl) (es_cons (ev_var (i := 2)) es_nil)) ev_bl)))))))))))))))))))
abbrev s_law : Stmt := topS 59
abbrev N_law : List Str := ["_law_script", "_law_spot", "_law_dice_here", "_law_full", "_law_told", "_law_sign"]
theorem sc_law : FnScope N_law ["_law_script"] (defScope s_law) := ⟨rfl, rfl, rfl, by decide +kernel, rfl, by decide +kernel, by decide +kernel⟩
def m_law (sp__law_dice : FSp) (sp__law_right : FSp) (sp_done : FSp) (sp_run_deeds : FSp) : SM :=
  (sSeq (sFor (iRg (r1 (eL max2D (esCons (eC (.int 1)) (esCons (eL min2D (esCons (eC (.int 4)) (esCons (eL lenD2 (esCons (eVar 0) esNil)) esNil))) esNil))))) (.nm 1) (sSeq (sSet 2 (eCall sp__law_dice (esCons (eVar 0) (esCons (eVar 1) esNil))))
    (sIf (tOr1 (tNot1 (tB1 (eCall sp__law_right (esCons (eVar 2) esNil)))) (tNot1 (tB1 (eCall sp__law_right (esCons (eVar 2) esNil))))) (sRet (eC (.bl false))) sNext)))
    (sSeq (sSet 3 (eL dictD2 (esCons (eFz (nLc (iSeq (eC (.str "abcdefghijklmnopqrstuvwx"))) (.nm 5) tTrue (eTup (esCons (e2 addD (eC (.str "k")) (eVar 5)) (esCons (eC (.int 1)) esNil))) [5])) esNil)))
    (sSeq (sSetN 4 (nLst (esCons (eLam P_law "law.<locals>.<lambda>" N__law_met SX l__law_met mr__law_met (eCall sp_done (esCons (eVar 3) (esCons (eTup (esCons (eC (.str "get")) (esCons (eC (.str "a")) esNil))) esNil)))) esNil)))
    (sSeq (sApp 4 (xV (eLam P_law "law.<locals>.<lambda>" N__law_met SX l__law_met mr__law_met (eCall sp_done (esCons (eDisp (pCons (eC (.str "a")) (eC (.int 999999999999)) (pCons (eC (.str "abcdefgh")) (e2 mulD2 (eC (.str "z")) (eC (.int 12))) (pCons (eC (.str "b")) (eC (.int (-999999999999))) (pCons (eC (.str "c")) (eC (.str "")) pNil))))) (esCons (eTup (esCons (eC (.str "drop")) (esCons (eC (.str "a")) esNil))) esNil))))))
    (sSeq (sApp 4 (xV (eLam P_law "law.<locals>.<lambda>" N__law_met SX l__law_met mr__law_met (eCall sp_run_deeds (esCons (eC (.dic [] [])) (esCons (eTup esNil) esNil))))))
    (sRet (e2 eqD2 (eVar 4) (eFz (nRep (nLst (esCons (eTup (esCons (eC (.str "fine")) (esCons (eC (.str "")) esNil))) esNil)) (eC (.int 3)))))))))))
theorem der_law (T : Tx K mg) (TB : LamX.TabB base mg O_law P_law) {sp__law_dice : FSp} (D__law_dice : Def P w K mg base "_law_dice" 1 sp__law_dice) {sp__law_right : FSp} (D__law_right : Def P w K mg base "_law_right" 13 sp__law_right) {sp_done : FSp} (D_done : Def P w K mg base "done" 9 sp_done) {sp_run_deeds : FSp} (D_run_deeds : Def P w K mg base "run_deeds" 8 sp_run_deeds) {A : Around} {outer : List Env} {s : Shared} {H : Hp} {E : XK} {f : Addr}
    (hr : RoomG 13 (A.deeper (envOfC "law" (defScope s_law) s.heap.objs.size f (.ref O_law)))) :
    SVs (cxOf (L2.CX P w) P w K mg base N_law "law" (defScope s_law) f (.ref O_law) A outer s H E) (defBody s_law) (m_law sp__law_dice sp__law_right sp_done sp_run_deeds) :=
  (svs_cons (sv_for (passes_of rfl) rfl (ei_rg (er_1 (by rfl) T.b_range (ev_callB (cs_max2 rfl) (by rfl) T.b_max PyProof.Rows.boot_max (es_cons ev_int (es_cons (ev_callB (cs_min2 rfl) (by rfl) T.b_min PyProof.Rows.boot_min (es_cons ev_int (es_cons (ev_callB cs_len2 (by rfl) T.b_len PySem.boot_len (es_cons (ev_var (i := 0)) es_nil)) es_nil))) es_nil))))) (eg_nm sc_law.nd) (svs_cons (sv_set (i := 2) sc_law.nd (ev_call D__law_dice (hr.mono (by decide)) (by rfl) (es_cons (ev_var (i := 0)) (es_cons (ev_var (i := 1)) es_nil))))
    (svs_one (sv_if (et_w (ew_or (et_not (et_val (ev_call D__law_right (hr.mono (by decide)) (by rfl) (es_cons (ev_var (i := 2)) es_nil)))) (ew_or1 (et_not (et_val (ev_call D__law_right (hr.mono (by decide)) (by rfl) (es_cons (ev_var (i := 2)) es_nil))))))) (svs_one (sv_ret ev_bl)) svs_nil))))
    (svs_cons (sv_set (i := 3) sc_law.nd (ev_callTy (cs_dict2 rfl) (by rfl) T.b_dict (by decide +kernel) (es_cons (ev_fz (en_lc rfl sc_law.nd (by exact (ei_seq ev_str)) (blkOk_by (own := [("_law_sign", 5)]) (by kernel_rfl)) (fun _ _ _ _ _ => (eg_nm sc_law.nd)) (fun _ _ _ _ _ => ets_nil) (fun _ _ _ _ _ => (ev_tup (es_cons (ev_bin os_addD ev_str (ev_var (i := 5))) (es_cons ev_int es_nil)))))) es_nil)))
    (svs_cons (sv_setN (i := 4) sc_law.nd (en_lst (es_cons (ev_lamM (c := O_law) (P := P_law) (q := "law.<locals>.<lambda>") 10 (sx_of T.xm) T.met__law_met (by rfl) sc__law_met (by rfl) (by first | exact .inl (by rfl) | exact .inr (.inl (by rfl))) (by rfl) (fun _ _ _ _ _ _ => hds__law_met T) (fun _ _ _ _ _ _ => rest__law_met T) TB (by rfl) (by rfl) (hr.mono (by decide)) (LamX.lamS_by (by kernel_rfl)) (by rfl) (fun _ _ _ _ _ => by rfl)
      (fun A outer s H E f c hr => (ev_call D_done (hr.mono (by decide)) (by rfl) (es_cons (ev_var (i := 3)) (es_cons (ev_tup (es_cons ev_str (es_cons ev_str es_nil))) es_nil))))) es_nil)))
    (svs_cons (sv_app (i := 4) (ex_v (ev_lamM (c := O_law) (P := P_law) (q := "law.<locals>.<lambda>") 10 (sx_of T.xm) T.met__law_met (by rfl) sc__law_met (by rfl) (by first | exact .inl (by rfl) | exact .inr (.inl (by rfl))) (by rfl) (fun _ _ _ _ _ _ => hds__law_met T) (fun _ _ _ _ _ _ => rest__law_met T) TB (by rfl) (by rfl) (hr.mono (by decide)) (LamX.lamS_by (by kernel_rfl)) (by rfl) (fun _ _ _ _ _ => by rfl)
      (fun A outer s H E f c hr => (ev_call D_done (hr.mono (by decide)) (by rfl) (es_cons (ev_disp (epr_cons ev_str (ev_fold (.int 999999999999) (ev_bin os_sub (ev_fold (.int 1000000000000) (ev_bin os_pow ev_int ev_int) (by intro ρ g Q E q; simpa using q)) ev_int) (by intro ρ g Q E q; simpa using q)) (epr_cons ev_str (ev_bin os_mulD2 ev_str ev_int) (epr_cons ev_str (ev_fold (.int (-999999999999)) (ev_bin os_sub ev_int (ev_fold (.int 1000000000000) (ev_bin os_pow ev_int ev_int) (by intro ρ g Q E q; simpa using q))) (by intro ρ g Q E q; simpa using q)) (epr_cons ev_str ev_str epr_nil))))) (es_cons (ev_tup (es_cons ev_str (es_cons ev_str es_nil))) es_nil)))))))
    (svs_cons (sv_app (i := 4) (ex_v (ev_lamM (c := O_law) (P := P_law) (q := "law.<locals>.<lambda>") 10 (sx_of T.xm) T.met__law_met (by rfl) sc__law_met (by rfl) (by first | exact .inl (by rfl) | exact .inr (.inl (by rfl))) (by rfl) (fun _ _ _ _ _ _ => hds__law_met T) (fun _ _ _ _ _ _ => rest__law_met T) TB (by rfl) (by rfl) (hr.mono (by decide)) (LamX.lamS_by (by kernel_rfl)) (by rfl) (fun _ _ _ _ _ => by rfl)
      (fun A outer s H E f c hr => (ev_call D_run_deeds (hr.mono (by decide)) (by rfl) (es_cons ev_disp0 (es_cons (ev_tup es_nil) es_nil)))))))
    (svs_one (sv_ret (ev_cmp (os_eq2 hr.r) (ev_var (i := 4)) (ev_fz (en_rep (en_lst (es_cons (ev_tup (es_cons ev_str (es_cons ev_str es_nil))) es_nil)) ev_int))))))))))
end
end GEN
-- order: _law_dice/1 _law_roll/1 _law_pick/2 has_word/1 has_signs/1 is_key/2 is_integer/1 is_from/2 is_value/3 is_whole/1 is_addend/2 is_value_or_none/4 is_lot_deed/5 is_lot/6 is_house/3 is_circle/4 is_deed/7 are_pairs/4 require_pairs/5 require_deed/8 with_key/1 put_in/2 added_in/3 are_same/2 lot_deed_in/4 does_bar/1 lot_in/5 done_in/6 ascending_pairs/1 done/9 run_deeds/8 is_read/9 keys_of/9 _law_right/13 law/14

set_option Elab.async false
set_option linter.all false
set_option maxRecDepth 100000
set_option maxHeartbeats 1000000
namespace SP
open PySem PySem.Spec PyProof.Rows L2 DL GEN
abbrev endS (Q : D → G → Prop) (g : G) : SE := { nx := fun _ g' => Q .non g', rt := Q, g0 := g }
abbrev wS (E : Exn → G → Prop) : Wi := fun x _ g' => E x g'
abbrev GR : Int := 1000000000000000000000000000000000000000000000000000000000000
abbrev ii (ns : List Int) : List D := ns.map D.int
/-! ### values -/
def okK : Key → Bool
  | .inl _ => true
  | .inr z => decide (z.length ≤ 100000)
mutual
/-- what a value of this law is made of -/
def okD : D → Bool
  | .non => true
  | .bl _ => true
  | .int _ => true
  | .str z => decide (z.length ≤ 100000)
  | .tup ds => okL ds
  | .lst ds => okL ds
  | .dic ks ds => ks.all okK && okL ds
  | _ => false
def okL : List D → Bool
  | [] => true
  | d :: ds => okD d && okL ds
end
theorem okL_iff : ∀ {ds : List D}, okL ds = true ↔ ∀ d ∈ ds, okD d = true
  | [] => by simp [okL]
  | d :: ds => by simp [okL, okL_iff (ds := ds)]
theorem noRef_ok {d : D} (h : okD d = true) : noRef d = true := by cases d <;> first | rfl | simp [okD] at h
/-! ### the judges -/
def intB : D → Bool
  | .int i => decide (-GR < i ∧ i < GR)
  | _ => false
def ALL : Str := "abcdefghijklmnopqrstuvwxyz0123456789 "
def LOW : Str := "abcdefghijklmnopqrstuvwxyz"
abbrev M12 : Int := 999999999999
def signB (signs : Str) (most : Int) : D → Bool
  | .str z => decide ((z.length : Int) ≤ most) && z.cps.toList.all fun c => decide (c ∈ signs.cps.toList)
  | _ => false
def is_integer : FSp := fun ds g Q _ => ∃ d, ds = [d] ∧ okD d = true ∧ Q (.bl (intB d)) g
theorem is_integer_len : ∀ ds g Q E, is_integer ds g Q E → ds.length = 1 := by
  rintro ds g Q E ⟨i, rfl, _⟩; rfl
theorem is_integer_ok : ∀ ds g Q E, is_integer ds g Q E → m_is_integer (endS Q g) (wS E) (startR N_is_integer ds) g := by
  rintro ds g Q E ⟨d, rfl, h, q⟩
  have nr := noRef_ok h
  cases d <;> simp [okD] at h <;> simp [m_is_integer, intB] at q ⊢ <;> try exact q
  split <;> simp_all
def fromB (lo hi : Int) : D → Bool
  | .int i => decide (-GR < i ∧ i < GR ∧ lo ≤ i ∧ i ≤ hi)
  | _ => false
theorem fromB_iff {lo hi : Int} {d : D} : fromB lo hi d = true ↔ ∃ i, d = .int i ∧ (-GR < i ∧ i < GR ∧ lo ≤ i ∧ i ≤ hi) := by
  cases d <;> simp [fromB]
def is_from : FSp := fun ds g Q _ => ∃ d lo hi, ds = [d, .int lo, .int hi] ∧ okD d = true ∧ Q (.bl (fromB lo hi d)) g
theorem is_from_len : ∀ ds g Q E, is_from ds g Q E → ds.length = 3 := by
  rintro ds g Q E ⟨i, _, _, rfl, _⟩; rfl
theorem is_from_ok : ∀ ds g Q E, is_from ds g Q E → m_is_from is_integer (endS Q g) (wS E) (startR N_is_from ds) g := by
  rintro ds g Q E ⟨d, lo, hi, rfl, h, q⟩
  simp [m_is_from]
  refine ⟨d, rfl, h, ?_⟩
  cases d <;> simp [intB, fromB] at q ⊢ <;> try exact q
  rename_i i
  by_cases h1 : -GR < i <;> by_cases h2 : i < GR <;> by_cases h3 : lo ≤ i <;> simp_all
  all_goals (intros; exfalso; simp only [GR] at *; omega)
/-! ### texts -/
def has_signs : FSp := fun ds g Q _ => ∃ d signs most, ds = [d, .str signs, .int most] ∧ okD d = true ∧ Q (.bl (signB signs most d)) g
theorem has_signs_len : ∀ ds g Q E, has_signs ds g Q E → ds.length = 3 := by
  rintro ds g Q E ⟨i, _, _, rfl, _⟩; rfl
theorem len_cps (z : Str) : z.cps.toList.length = z.length := by simp [Str.length]
theorem has_signs_ok : ∀ ds g Q E, has_signs ds g Q E → m_has_signs (endS Q g) (wS E) (startR N_has_signs ds) g := by
  rintro ds g Q E ⟨d, signs, most, rfl, h, q⟩
  have nr := noRef_ok h
  have sz := sizeLine_eq
  cases d <;> simp [okD] at h <;> try (simp [m_has_signs, signB] at q ⊢; exact q)
  rename_i z
  have hz : z.length ≤ sizeLine := by omega
  simp [m_has_signs, hz]
  by_cases hm : (z.length : Int) ≤ most
  · simp [hm, nLc]
    refine ⟨by have := len_cps z; simp at this; omega, lcGo_a (fun d => match signOf d with | some c => .bl (decide (c ∈ signs.cps.toList)) | none => .non) (fun d hd => ?_) ?_⟩
    · obtain ⟨c, hc, rfl⟩ := List.mem_map.mp hd
      refine ⟨_, rfl, fun K k => ?_⟩
      simpa [inD] using k
    · have e : (z.cps.toList.map fun c => D.str ⟨#[c]⟩).map (fun d => match signOf d with | some c => D.bl (decide (c ∈ signs.cps.toList)) | none => D.non) = z.cps.toList.map fun c => D.bl (decide (c ∈ signs.cps.toList)) := by
        rw [List.map_map]; rfl
      rw [e, blsOf_mapF]
      simp [signB, hm] at q
      simpa [List.all_map, Function.comp_def] using q
  · simp [hm]
    simpa [signB, hm] using q
def roll : FSp := fun ds g Q _ => ∃ (a : Addr) (n : Int), ds = [.ref a, .int n] ∧ g a = some .dice ∧ (0 < n ∧ n < 2 ^ 62) ∧ ∀ r : Int, 0 ≤ r → r < n → Q (.int r) g
theorem roll_len : ∀ ds g Q E, roll ds g Q E → ds.length = 2 := by
  rintro ds g Q E ⟨i, j, rfl, _⟩; rfl
theorem roll_ok : ∀ ds g Q E, roll ds g Q E → m__law_roll (endS Q g) (wS E) (startR N__law_roll ds) g := by
  rintro ds g Q E ⟨a, n, rfl, h, ⟨p, p2⟩, q⟩
  have m1 := fun x : Int => q (x % n) (Int.emod_nonneg _ (by omega)) (Int.emod_lt_of_pos _ p)
  have d1 : ∀ x : Int, CDivW x n := fun x => divW_s p p2
  simp [m__law_roll, h, p, d1]
  intro z0
  split
  · intros; exact m1 _
  · intros; exact m1 _
def dice : FSp := fun ds g Q _ => ∃ (ns : List Int) (k : Int), ds = [.lst (ii ns), .int k] ∧ 0 ≤ k ∧ ∀ a, g a = none → Q (.ref a) (gset g a .dice)
theorem dice_len : ∀ ds g Q E, dice ds g Q E → ds.length = 2 := by
  rintro ds g Q E ⟨i, j, rfl, _⟩; rfl
theorem mul_great : mulOk (10 ^ 57) (10 ^ 60) := .inl (by unfold CMulW; decide +kernel)
theorem dice_ok : ∀ ds g Q E, dice ds g Q E → m__law_dice (endS Q g) (wS E) (startR N__law_dice ds) g := by
  rintro ds g Q E ⟨ns, k, rfl, h, q⟩
  have sz := sizeLine_eq
  have mg := mul_great
  simp at mg
  simp [m__law_dice, sz, mg]
  split
  · rename_i hk
    rw [atI_int h hk]
    simp
    exact q
  · exact q
theorem seqIx {i : Int} {n : Nat} (h0 : 0 ≤ i) (h : i < n) : seqIndex? i n = some i.toNat := by
  unfold seqIndex?
  have : ¬ i < 0 := by omega
  simp [this, h0, h]
theorem erase_perm {α : Type} {l : List α} {k : Nat} (h : k < l.length) : (l[k] :: l.eraseIdx k).Perm l := by
  rw [List.eraseIdx_eq_take_drop_succ]
  refine List.perm_middle.symm.trans ?_
  rw [List.getElem_cons_drop, List.take_append_drop]
def pick : FSp := fun ds g Q _ => ∃ (a : Addr) (x : D) (xs : List D), ds = [.ref a, x] ∧ (x = .lst xs ∨ x = .tup xs) ∧ g a = some .dice ∧ (xs ≠ [] ∧ xs.length ≤ 2 ^ 60) ∧ ∀ x ∈ xs, Q x g
theorem pick_len : ∀ ds g Q E, pick ds g Q E → ds.length = 2 := by
  rintro ds g Q E ⟨i, j, _, rfl, _⟩; rfl
theorem pick_ok : ∀ ds g Q E, pick ds g Q E → m__law_pick roll (endS Q g) (wS E) (startR N__law_pick ds) g := by
  rintro ds g Q E ⟨a, x0, xs, rfl, hx0, h, ⟨h1, h2⟩, q⟩
  have p : 0 < xs.length := List.length_pos_iff.mpr h1
  rcases hx0 with rfl | rfl
  all_goals
    simp [m__law_pick]
    refine ⟨a, xs.length, rfl, h, ⟨by omega, by omega⟩, fun r h3 h4 => ?_⟩
    have hj : r.toNat < xs.length := by omega
    have e : atI xs r = some xs[r.toNat] := by
      obtain ⟨j, rfl⟩ := Int.eq_ofNat_of_zero_le h3
      exact atI_nat (j := j) (by simpa using List.getElem?_eq_getElem hj)
    simp [e]
    exact q _ (List.getElem_mem _)
theorem rngD_ii (lo : Int) (n : Nat) : rngD lo n = ii ((List.range n).map fun (i : Nat) => lo + i) := by
  unfold rngD ii; rw [List.map_map]; rfl
/-! ### more judges -/
def wholeB : D → Bool
  | .int _ => true
  | _ => false
def keyB : D → Bool
  | .str z => signB LOW 8 (.str z) && decide (z ≠ "")
  | _ => false
def valB (d : D) : Bool := fromB (-M12) M12 d || signB ALL 12 d
def addB : D → Bool
  | .int i => decide (-M12 ≤ i ∧ i ≤ M12)
  | _ => false
def vonB (d : D) : Bool := nonB d || valB d
def wordB (ws : List Str) : D → Bool
  | .tup (.str w :: _) => decide (w ∈ ws)
  | _ => false
def LOTW : List Str := ["put", "drop", "get", "add", "swap"]
def DEEDW : List Str := ["put", "drop", "get", "add", "swap", "list", "all", "circle"]
def loneB : D → Bool
  | .tup (.str w :: r) => if w = "put" then (match r with | [k, v] => keyB k && valB v | _ => false)
      else if w = "add" then (match r with | [k, v] => keyB k && addB v | _ => false)
      else if w = "swap" then (match r with | [k, o, v] => keyB k && vonB o && vonB v | _ => false)
      else if w = "drop" ∨ w = "get" then (match r with | [k] => keyB k | _ => false)
      else false
  | _ => false
def lotB : D → Bool
  | .tup ds => decide (1 ≤ ds.length ∧ ds.length ≤ 6) && ds.all loneB
  | _ => false
def houseB (d : D) : Bool := fromB 0 8 d
/-- ascending ints -/
def ascB : List D → Bool
  | .int i :: .int j :: r => decide (i < j) && ascB (.int j :: r)
  | _ => true
def circB : D → Bool
  | .tup ds => decide (1 ≤ ds.length ∧ ds.length ≤ 7) && ds.all houseB && ascB ds
  | _ => false
def deedB : D → Bool
  | .tup (.str w :: r) => if w = "list" then (match r with | [k, v] => keyB k && keyB v | _ => false)
      else if w = "all" then (match r with | [v] => lotB v | _ => false)
      else if w = "circle" then (match r with | [v] => circB v | _ => false)
      else loneB (.tup (.str w :: r))
  | _ => false
def is_key : FSp := fun ds g Q _ => ∃ d, ds = [d] ∧ okD d = true ∧ Q (.bl (keyB d)) g
theorem is_key_len : ∀ ds g Q E, is_key ds g Q E → ds.length = 1 := by
  rintro ds g Q E ⟨i, rfl, _⟩; rfl
theorem is_key_ok : ∀ ds g Q E, is_key ds g Q E → m_is_key has_signs (endS Q g) (wS E) (startR N_is_key ds) g := by
  rintro ds g Q E ⟨d, rfl, h, q⟩
  simp [m_is_key]
  refine ⟨d, _, _, rfl, h, ?_⟩
  cases d <;> simp [okD] at h <;> try (simp [signB, keyB] at q ⊢; exact q)
  rename_i z
  cases hs : signB "abcdefghijklmnopqrstuvwxyz" 8 (.str z) with
  | false => simp [keyB, LOW, hs] at q ⊢; exact q
  | true => simp [keyB, LOW, hs] at q ⊢; exact q
def is_value : FSp := fun ds g Q _ => ∃ d, ds = [d] ∧ okD d = true ∧ Q (.bl (valB d)) g
theorem is_value_len : ∀ ds g Q E, is_value ds g Q E → ds.length = 1 := by
  rintro ds g Q E ⟨i, rfl, _⟩; rfl
theorem is_value_ok : ∀ ds g Q E, is_value ds g Q E → m_is_value is_from has_signs (endS Q g) (wS E) (startR N_is_value ds) g := by
  rintro ds g Q E ⟨d, rfl, h, q⟩
  simp [m_is_value]
  refine ⟨d, _, _, rfl, h, ?_⟩
  cases hf : fromB (-999999999999) 999999999999 d with
  | true => simp [valB, M12, hf] at q ⊢; exact q
  | false =>
    simp [valB, M12, hf] at q ⊢
    exact ⟨d, _, _, rfl, h, q⟩
def is_whole : FSp := fun ds g Q _ => ∃ d, ds = [d] ∧ okD d = true ∧ Q (.bl (wholeB d)) g
theorem is_whole_len : ∀ ds g Q E, is_whole ds g Q E → ds.length = 1 := by
  rintro ds g Q E ⟨i, rfl, _⟩; rfl
theorem is_whole_ok : ∀ ds g Q E, is_whole ds g Q E → m_is_whole (endS Q g) (wS E) (startR N_is_whole ds) g := by
  rintro ds g Q E ⟨d, rfl, h, q⟩
  have nr := noRef_ok h
  cases d <;> simp [okD] at h <;> simp [m_is_whole, wholeB] at q ⊢ <;> exact q
def is_addend : FSp := fun ds g Q _ => ∃ d, ds = [d] ∧ okD d = true ∧ Q (.bl (addB d)) g
theorem is_addend_len : ∀ ds g Q E, is_addend ds g Q E → ds.length = 1 := by
  rintro ds g Q E ⟨i, rfl, _⟩; rfl
theorem is_addend_ok : ∀ ds g Q E, is_addend ds g Q E → m_is_addend is_whole (endS Q g) (wS E) (startR N_is_addend ds) g := by
  rintro ds g Q E ⟨d, rfl, h, q⟩
  simp [m_is_addend]
  refine ⟨d, rfl, h, ?_⟩
  cases d <;> simp [wholeB, addB] at q ⊢ <;> try exact q
  rename_i i
  by_cases h1 : -M12 ≤ i <;> simp [h1] at q ⊢ <;> simp_all
def is_value_or_none : FSp := fun ds g Q _ => ∃ d, ds = [d] ∧ okD d = true ∧ Q (.bl (vonB d)) g
theorem is_value_or_none_len : ∀ ds g Q E, is_value_or_none ds g Q E → ds.length = 1 := by
  rintro ds g Q E ⟨i, rfl, _⟩; rfl
theorem is_value_or_none_ok : ∀ ds g Q E, is_value_or_none ds g Q E → m_is_value_or_none is_value (endS Q g) (wS E) (startR N_is_value_or_none ds) g := by
  rintro ds g Q E ⟨d, rfl, h, q⟩
  simp [m_is_value_or_none, -nonB]
  cases hn : nonB d with
  | true => simp [vonB, hn, -nonB] at q ⊢; exact q
  | false =>
    simp [vonB, hn, -nonB] at q ⊢
    exact ⟨d, rfl, h, q⟩
end SP

set_option Elab.async false
set_option linter.all false
set_option maxRecDepth 100000
set_option maxHeartbeats 1000000
namespace SP
open PySem PySem.Spec PyProof.Rows L2 DL GEN
theorem any_str {ns : List Str} {i : Str} : ((pyL (ns.map .str)).any fun z => PyData.eqv z (py (.str i))) = decide (i ∈ ns) := by
  induction ns with
  | nil => simp [pyL]
  | cons n ns ih =>
    have ih' : ((pyL (ns.map .str)).any fun z => PyData.eqv z (.str i)) = decide (i ∈ ns) := ih
    simp only [List.map_cons, pyL, List.any_cons, py, PyData.eqv]
    rw [ih']
    by_cases h : n = i
    · simp [h]
    · have : (n == i) = false := by simpa using h
      simp [this, Ne.symm h]
theorem pok_strs {ns : List Str} : pok (.tup (ns.map .str)) = true := by
  rw [pok]; exact pokL_all fun d hd => by obtain ⟨i, _, rfl⟩ := List.mem_map.mp hd; simp
theorem dep_strs {ns : List Str} : dep deepest (.tup (ns.map .str)) = true := by
  unfold deepest; rw [dep]; exact depL_all fun d hd => by obtain ⟨i, _, rfl⟩ := List.mem_map.mp hd; simp
theorem inD_strs {ns : List Str} {i : Str} : inD (.str i) (.tup (ns.map .str)) = some (.bl (decide (i ∈ ns))) := by
  have h := any_str (ns := ns) (i := i)
  unfold inD inOk
  simp only [pok_str, pok_strs, dep_str, dep_strs, Bool.and_self, ite_true, h]
theorem at0 (a : D) (l : List D) : atI (a :: l) 0 = some a := atI_nat (j := 0) rfl
theorem at1 (a b : D) (l : List D) : atI (a :: b :: l) 1 = some b := atI_nat (j := 1) rfl
theorem at2 (a b c : D) (l : List D) : atI (a :: b :: c :: l) 2 = some c := atI_nat (j := 2) rfl
theorem at3 (a b c d : D) (l : List D) : atI (a :: b :: c :: d :: l) 3 = some d := atI_nat (j := 3) rfl
theorem at4 (a b c d e : D) (l : List D) : atI (a :: b :: c :: d :: e :: l) 4 = some e := atI_nat (j := 4) rfl
@[simp] theorem ne_nil (ds : List D) : neD2 (.tup ds) (.tup []) = some (.bl (!ds.isEmpty)) := by
  unfold neD2
  split
  · cases ds <;> simp [py, pyL, PyData.eqv, PyData.eqvAll]
  · unfold deqIn
    cases ds <;> simp [seqT, deqAll]
theorem ok_mem {ds : List D} (h : okL ds = true) {d : D} (hd : d ∈ ds) : okD d = true := okL_iff.mp h d hd
def has_word : FSp := fun ds g Q _ => ∃ d ws, ds = [d, .tup (ws.map .str)] ∧ okD d = true ∧ Q (.bl (wordB ws d)) g
theorem has_word_len : ∀ ds g Q E, has_word ds g Q E → ds.length = 2 := by
  rintro ds g Q E ⟨i, _, rfl, _⟩; rfl
theorem has_word_ok : ∀ ds g Q E, has_word ds g Q E → m_has_word (endS Q g) (wS E) (startR N_has_word ds) g := by
  rintro ds g Q E ⟨d, ws, rfl, h, q⟩
  have nr := noRef_ok h
  cases d <;> simp [okD] at h <;> try (simp [m_has_word, wordB] at q ⊢; exact q)
  rename_i es
  cases es with
  | nil => simp [m_has_word, wordB] at q ⊢; exact q
  | cons a l =>
    have ha := ok_mem h (List.mem_cons_self ..)
    have na := noRef_ok ha
    simp [m_has_word, at0]
    cases a <;> simp [okD] at ha <;> try (simp [wordB] at q ⊢; exact q)
    simp [inD_strs, wordB] at q ⊢
    exact q
/-- the row behind a word -/
theorem word_inv {ws : List Str} {d : D} (h : wordB ws d = true) : ∃ w r, d = .tup (.str w :: r) ∧ w ∈ ws := by
  unfold wordB at h
  split at h
  · exact ⟨_, _, rfl, by simpa using h⟩
  · cases h
theorem lone_word {d : D} (h : wordB LOTW d = false) : loneB d = false := by
  cases d with
  | tup ds =>
    match ds with
    | [] => simp [loneB]
    | .str w :: r =>
      simp [wordB, LOTW] at h
      obtain ⟨h1, h2, h3, h4, h5⟩ := h
      simp [loneB, h1, h2, h3, h4, h5]
    | .non :: _ | .bl _ :: _ | .int _ :: _ | .tup _ :: _ | .lst _ :: _ | .dic _ _ :: _ | .ref _ :: _ | .ptp _ :: _ | .obj _ _ :: _ => simp [loneB]
  | _ => rfl
def is_lot_deed : FSp := fun ds g Q _ => ∃ d, ds = [d] ∧ okD d = true ∧ Q (.bl (loneB d)) g
theorem is_lot_deed_len : ∀ ds g Q E, is_lot_deed ds g Q E → ds.length = 1 := by
  rintro ds g Q E ⟨i, rfl, _⟩; rfl
theorem is_lot_deed_ok : ∀ ds g Q E, is_lot_deed ds g Q E → m_is_lot_deed has_word is_key is_value is_addend is_value_or_none (endS Q g) (wS E) (startR N_is_lot_deed ds) g := by
  rintro ds g Q E ⟨d, rfl, h, q⟩
  simp [m_is_lot_deed]
  refine ⟨d, LOTW, rfl, h, ?_⟩
  cases hw : wordB LOTW d with
  | false =>
    rw [lone_word hw] at q
    simp
    exact q
  | true =>
    obtain ⟨w, r, rfl, hm⟩ := word_inv hw
    have hr : okL r = true := by simp [okD, okL] at h; exact h.2
    simp only [LOTW, List.mem_cons, List.not_mem_nil, or_false] at hm
    simp [at0]
    rcases hm with rfl | rfl | rfl | rfl | rfl
    · simp [sCases_cons]
      match r, hr with
      | [], _ => simp [loneB] at q ⊢; exact q
      | [a], _ => simp [loneB] at q ⊢; exact q
      | [a, b], hr =>
        simp [okL] at hr
        simp [loneB, at1, at2] at q ⊢
        refine ⟨a, rfl, hr.1, ?_⟩
        cases hk : keyB a with
        | false => simp [hk] at q ⊢; exact q
        | true => simp [hk] at q ⊢; exact ⟨b, rfl, hr.2, q⟩
      | a :: b :: c :: t, _ =>
        have e : ¬ ((t.length : Int) + 1 + 1 + 1 + 1 = 3) := by omega
        simp [loneB, e] at q ⊢
        exact q
    · simp [sCases_cons, sCases]
      match r, hr with
      | [], _ => simp [loneB] at q ⊢; exact q
      | [a], hr =>
        simp [okL] at hr
        simp [loneB, at1] at q ⊢
        exact ⟨a, rfl, hr, q⟩
      | a :: b :: t, _ =>
        have e : ¬ ((t.length : Int) + 1 + 1 + 1 = 2) := by omega
        simp [loneB, e] at q ⊢
        exact q
    · simp [sCases_cons, sCases]
      match r, hr with
      | [], _ => simp [loneB] at q ⊢; exact q
      | [a], hr =>
        simp [okL] at hr
        simp [loneB, at1] at q ⊢
        exact ⟨a, rfl, hr, q⟩
      | a :: b :: t, _ =>
        have e : ¬ ((t.length : Int) + 1 + 1 + 1 = 2) := by omega
        simp [loneB, e] at q ⊢
        exact q
    · simp [sCases_cons]
      match r, hr with
      | [], _ => simp [loneB] at q ⊢; exact q
      | [a], _ => simp [loneB] at q ⊢; exact q
      | [a, b], hr =>
        simp [okL] at hr
        simp [loneB, at1, at2] at q ⊢
        refine ⟨a, rfl, hr.1, ?_⟩
        cases hk : keyB a with
        | false => simp [hk] at q ⊢; exact q
        | true => simp [hk] at q ⊢; exact ⟨b, rfl, hr.2, q⟩
      | a :: b :: c :: t, _ =>
        have e : ¬ ((t.length : Int) + 1 + 1 + 1 + 1 = 3) := by omega
        simp [loneB, e] at q ⊢
        exact q
    · simp [sCases_cons]
      match r, hr with
      | [], _ => simp [loneB] at q ⊢; exact q
      | [a], _ => simp [loneB] at q ⊢; exact q
      | [a, b], _ => simp [loneB] at q ⊢; exact q
      | [a, b, c], hr =>
        simp [okL] at hr
        simp [loneB, at1, at2, at3] at q ⊢
        refine ⟨a, rfl, hr.1, ?_⟩
        cases hk : keyB a with
        | false => simp [hk] at q ⊢; exact q
        | true =>
          simp [hk] at q ⊢
          refine ⟨b, rfl, hr.2.1, ?_⟩
          cases hv : vonB b with
          | false => simp [hv] at q ⊢; exact q
          | true => simp [hv] at q ⊢; exact ⟨c, rfl, hr.2.2, q⟩
      | a :: b :: c :: e :: t, _ =>
        have e : ¬ ((t.length : Int) + 1 + 1 + 1 + 1 + 1 = 4) := by omega
        simp [loneB, e] at q ⊢
        exact q
def is_lot : FSp := fun ds g Q _ => ∃ d, ds = [d] ∧ okD d = true ∧ Q (.bl (lotB d)) g
theorem is_lot_len : ∀ ds g Q E, is_lot ds g Q E → ds.length = 1 := by
  rintro ds g Q E ⟨i, rfl, _⟩; rfl
theorem is_lot_ok : ∀ ds g Q E, is_lot ds g Q E → m_is_lot is_lot_deed (endS Q g) (wS E) (startR N_is_lot ds) g := by
  rintro ds g Q E ⟨d, rfl, h, q⟩
  have nr := noRef_ok h
  have sz := sizeLine_eq
  cases d <;> simp [okD] at h <;> try (simp [m_is_lot, lotB] at q ⊢; exact q)
  rename_i es
  simp [m_is_lot]
  by_cases h1 : 1 ≤ es.length
  · by_cases h2 : es.length ≤ 6
    · have e1 : (1 : Int) ≤ es.length := by omega
      have e2 : (es.length : Int) ≤ 6 := by omega
      simp [e1, e2, nLc]
      refine ⟨by omega, lcGo_a (fun d => .bl (loneB d)) (fun d hd => ?_) ?_⟩
      · refine ⟨_, rfl, fun K k => ?_⟩
        simp
        exact ⟨d, rfl, ok_mem h hd, k⟩
      · rw [blsOf_mapF]
        simp [lotB, h1, h2, List.all_map, Function.comp_def] at q ⊢
        exact q
    · have e1 : (1 : Int) ≤ es.length := by omega
      have e2 : ¬ (es.length : Int) ≤ 6 := by omega
      simp [e1, e2]
      simp [lotB, h2] at q
      exact q
  · have e1 : ¬ (1 : Int) ≤ es.length := by omega
    simp [e1]
    simp [lotB, h1] at q
    exact q
def is_house : FSp := fun ds g Q _ => ∃ d, ds = [d] ∧ okD d = true ∧ Q (.bl (houseB d)) g
theorem is_house_len : ∀ ds g Q E, is_house ds g Q E → ds.length = 1 := by
  rintro ds g Q E ⟨i, rfl, _⟩; rfl
theorem is_house_ok : ∀ ds g Q E, is_house ds g Q E → m_is_house is_from (endS Q g) (wS E) (startR N_is_house ds) g := by
  rintro ds g Q E ⟨d, rfl, h, q⟩
  simp [m_is_house]
  exact ⟨d, _, _, rfl, h, q⟩
theorem house_ints {es : List D} (h : es.all houseB = true) : ∃ ns : List Int, es = ii ns ∧ ∀ i ∈ ns, 0 ≤ i ∧ i ≤ 8 := by
  induction es with
  | nil => exact ⟨[], rfl, fun _ z => by cases z⟩
  | cons d ds ih =>
    rw [List.all_cons, Bool.and_eq_true] at h
    obtain ⟨ns, rfl, hn⟩ := ih h.2
    obtain ⟨i, rfl, _, _, h3, h4⟩ := fromB_iff.mp h.1
    exact ⟨i :: ns, rfl, fun j hj => by
      rcases List.mem_cons.mp hj with rfl | hj
      · exact ⟨h3, h4⟩
      · exact hn j hj⟩
theorem ascB_zip : ∀ ns : List Int, ascB (ii ns) = (ns.zip (ns.drop 1)).all fun p => decide (p.1 < p.2)
  | [] => rfl
  | [_] => rfl
  | a :: b :: r => by
    have ih := ascB_zip (b :: r)
    simp only [ii, List.map_cons] at ih ⊢
    rw [ascB, ih]
    rfl
def is_circle : FSp := fun ds g Q _ => ∃ d, ds = [d] ∧ okD d = true ∧ Q (.bl (circB d)) g
theorem is_circle_len : ∀ ds g Q E, is_circle ds g Q E → ds.length = 1 := by
  rintro ds g Q E ⟨i, rfl, _⟩; rfl
theorem is_circle_ok : ∀ ds g Q E, is_circle ds g Q E → m_is_circle is_house (endS Q g) (wS E) (startR N_is_circle ds) g := by
  rintro ds g Q E ⟨d, rfl, h, q⟩
  have nr := noRef_ok h
  have sz := sizeLine_eq
  cases d <;> simp [okD] at h <;> try (simp [m_is_circle, circB] at q ⊢; exact q)
  rename_i es
  simp [m_is_circle]
  by_cases h1 : 1 ≤ es.length
  · by_cases h2 : es.length ≤ 7
    · have e1 : (1 : Int) ≤ es.length := by omega
      have e2 : (es.length : Int) ≤ 7 := by omega
      simp [e1, e2, nLc]
      refine ⟨by omega, lcGo_a (fun d => .bl (houseB d)) (fun d hd => ?_) ?_⟩
      · refine ⟨_, rfl, fun K k => ?_⟩
        simp
        exact ⟨d, rfl, ok_mem h hd, k⟩
      · rw [blsOf_mapF]
        cases ha : es.all houseB with
        | false =>
          have : (List.map houseB es).all id = false := by rw [List.all_map]; exact ha
          simp [circB, ha] at q
          simp [this] at *
          simp_all
        | true =>
          have hb : (List.map houseB es).all id = true := by rw [List.all_map]; exact ha
          obtain ⟨ns, rfl, _⟩ := house_ints ha
          have l1 : 1 ≤ ns.length := by simpa using h1
          have l2 : ns.length ≤ 7 := by simpa using h2
          simp only [circB, ha, h1, h2, ascB_zip] at q
          simp at q
          have hh : ∀ x ∈ ns, houseB (.int x) = true := by simpa using ha
          simp
          rw [if_pos hh]
          rw [cutG_1, ← List.map_drop, zipL_map]
          simp
          refine ⟨by omega, lcGo_a (fun d => match d with | .ptp [.int x, .int y] => .bl (decide (x < y)) | _ => .non) (fun d hd => ?_) ?_⟩
          · obtain ⟨⟨x, y⟩, hi, rfl⟩ := List.mem_map.mp hd
            refine ⟨_, rfl, fun K k => ?_⟩
            simpa using k
          · rw [List.map_map]
            have := blsOf_mapF (f := fun p : Int × Int => decide (p.1 < p.2)) (ns.zip (ns.drop 1))
            simp only [Function.comp_def]
            rw [List.drop_one] at this
            rw [this]
            simp [List.all_map, Function.comp_def, l1, l2] at q ⊢
            exact q
    · have e1 : (1 : Int) ≤ es.length := by omega
      have e2 : ¬ (es.length : Int) ≤ 7 := by omega
      simp [e1, e2]
      simp [circB, h2] at q
      exact q
  · have e1 : ¬ (1 : Int) ≤ es.length := by omega
    simp [e1]
    simp [circB, h1] at q
    exact q
end SP

set_option Elab.async false
set_option linter.all false
set_option maxRecDepth 100000
set_option maxHeartbeats 1000000
namespace SP
open PySem PySem.Spec PyProof.Rows L2 DL GEN
theorem deed_word {d : D} (h : wordB DEEDW d = false) : deedB d = false := by
  cases d with
  | tup ds =>
    match ds with
    | [] => simp [deedB]
    | .str w :: r =>
      simp [wordB, DEEDW] at h
      obtain ⟨h1, h2, h3, h4, h5, h6, h7, h8⟩ := h
      simp [deedB, loneB, h1, h2, h3, h4, h5, h6, h7, h8]
    | .non :: _ | .bl _ :: _ | .int _ :: _ | .tup _ :: _ | .lst _ :: _ | .dic _ _ :: _ | .ref _ :: _ | .ptp _ :: _ | .obj _ _ :: _ => simp [deedB]
  | _ => rfl
def is_deed : FSp := fun ds g Q _ => ∃ d, ds = [d] ∧ okD d = true ∧ Q (.bl (deedB d)) g
theorem is_deed_len : ∀ ds g Q E, is_deed ds g Q E → ds.length = 1 := by
  rintro ds g Q E ⟨i, rfl, _⟩; rfl
theorem is_deed_ok : ∀ ds g Q E, is_deed ds g Q E → m_is_deed is_lot_deed has_word is_key is_lot is_circle (endS Q g) (wS E) (startR N_is_deed ds) g := by
  rintro ds g Q E ⟨d, rfl, h, q⟩
  simp [m_is_deed]
  refine ⟨d, DEEDW, rfl, h, ?_⟩
  cases hw : wordB DEEDW d with
  | false =>
    rw [deed_word hw] at q
    simp
    exact q
  | true =>
    obtain ⟨w, r, rfl, hm⟩ := word_inv hw
    have hr : okL r = true := by simp [okD, okL] at h; exact h.2
    simp [at0]
    by_cases e1 : w = "list"
    · subst e1
      simp [sCases_cons]
      match r, hr with
      | [], _ => simp [deedB] at q ⊢; exact q
      | [a], _ => simp [deedB] at q ⊢; exact q
      | [a, b], hr =>
        simp [okL] at hr
        simp [deedB, at1, at2] at q ⊢
        refine ⟨a, rfl, hr.1, ?_⟩
        cases hk : keyB a with
        | false => simp [hk] at q ⊢; exact q
        | true => simp [hk] at q ⊢; exact ⟨b, rfl, hr.2, q⟩
      | a :: b :: c :: t, _ =>
        have e : ¬ ((t.length : Int) + 1 + 1 + 1 + 1 = 3) := by omega
        simp [deedB, e] at q ⊢
        exact q
    · by_cases e2 : w = "all"
      · subst e2
        simp [sCases_cons]
        match r, hr with
        | [], _ => simp [deedB] at q ⊢; exact q
        | [a], hr =>
          simp [okL] at hr
          simp [deedB, at1] at q ⊢
          exact ⟨a, rfl, hr, q⟩
        | a :: b :: t, _ =>
          have e : ¬ ((t.length : Int) + 1 + 1 + 1 = 2) := by omega
          simp [deedB, e] at q ⊢
          exact q
      · by_cases e3 : w = "circle"
        · subst e3
          simp [sCases_cons]
          match r, hr with
          | [], _ => simp [deedB] at q ⊢; exact q
          | [a], hr =>
            simp [okL] at hr
            simp [deedB, at1] at q ⊢
            exact ⟨a, rfl, hr, q⟩
          | a :: b :: t, _ =>
            have e : ¬ ((t.length : Int) + 1 + 1 + 1 = 2) := by omega
            simp [deedB, e] at q ⊢
            exact q
        · simp [sCases_cons, sCases, e1, e2, e3]
          have e : deedB (.tup (.str w :: r)) = loneB (.tup (.str w :: r)) := by simp [deedB, e1, e2, e3]
          rw [e] at q
          exact ⟨_, rfl, h, q⟩
def pairsB : D → Bool
  | .dic ks ds => decide (ks.length ≤ 24) && (ks.zip ds).all fun kv => keyB (ofKey kv.1) && valB kv.2
  | _ => false
theorem ok_key {k : Key} (h : okK k = true) : okD (ofKey k) = true := by
  cases k <;> simp [okK, okD] at h ⊢
  exact h
def are_pairs : FSp := fun ds g Q _ => ∃ d, ds = [d] ∧ okD d = true ∧ Q (.bl (pairsB d)) g
theorem are_pairs_len : ∀ ds g Q E, are_pairs ds g Q E → ds.length = 1 := by
  rintro ds g Q E ⟨i, rfl, _⟩; rfl
theorem are_pairs_ok : ∀ ds g Q E, are_pairs ds g Q E → m_are_pairs is_key is_value (endS Q g) (wS E) (startR N_are_pairs ds) g := by
  rintro ds g Q E ⟨d, rfl, h, q⟩
  have nr := noRef_ok h
  have sz := sizeLine_eq
  cases d <;> simp [okD] at h <;> try (simp [m_are_pairs, pairsB] at q ⊢; exact q)
  rename_i ks es
  simp [m_are_pairs, -ofKey]
  by_cases h1 : ks.length ≤ 24
  · have e1 : ¬ (24 : Int) < ks.length := by omega
    simp [e1, nLc, -ofKey]
    refine ⟨by omega, lcGo_a (fun d => match d with | .ptp [k, v] => .bl (keyB k && valB v) | _ => .non) (fun d hd => ?_) ?_⟩
    · obtain ⟨⟨k, v⟩, hkv, rfl⟩ := List.mem_map.mp hd
      refine ⟨_, rfl, fun K k2 => ?_⟩
      have o1 := ok_key (h.1 k (List.of_mem_zip hkv).1)
      have o2 := ok_mem h.2 (List.of_mem_zip hkv).2
      simp [-ofKey]
      refine ⟨_, rfl, o1, ?_⟩
      cases hk : keyB (ofKey k) with
      | false => simp [hk, -ofKey] at k2 ⊢; exact k2
      | true => simp [hk, -ofKey] at k2 ⊢; exact ⟨v, rfl, o2, k2⟩
    · rw [List.map_map]
      have := blsOf_mapF (f := fun kv : Key × D => keyB (ofKey kv.1) && valB kv.2) (ks.zip es)
      simp only [Function.comp_def]
      rw [this]
      simp only [pairsB, h1] at q
      simp only [Option.map_some, List.all_map]
      simpa [Function.comp_def, -ofKey] using q
  · have e1 : (24 : Int) < ks.length := by omega
    simp [e1]
    simp [pairsB, h1] at q
    exact q
end SP

set_option Elab.async false
set_option linter.all false
set_option maxRecDepth 100000
set_option maxHeartbeats 1000000
namespace SP
open PySem PySem.Spec PyProof.Rows L2 DL GEN
/-! ### plain values, pairs -/
inductive At where | non | int (i : Int) | str (s : Str) deriving DecidableEq
def At.d : At → D
  | .non => .non
  | .int i => .int i
  | .str s => .str s
@[simp] theorem At.d_non : At.d .non = .non := rfl
@[simp] theorem At.d_int (i : Int) : At.d (.int i) = .int i := rfl
@[simp] theorem At.d_str (s : Str) : At.d (.str s) = .str s := rfl
theorem At.atom (a : At) : atomD a.d = true := by cases a <;> rfl
abbrev Prs := List (Str × At)
def kds (ps : Prs) : List (Key × D) := ps.map fun p => (Sum.inr p.1, p.2.d)
abbrev pd (ps : Prs) : D := mkDic (kds ps)
def lk (ps : Prs) (k : Str) : At := ((ps.find? fun p => decide (p.1 = k)).map (·.2)).getD .non
theorem kds_zip (ps : Prs) : ((kds ps).map (·.1)).zip ((kds ps).map (·.2)) = kds ps := by
  induction ps with
  | nil => rfl
  | cons p ps ih => simpa [kds] using ih
theorem getK_kds (ps : Prs) (k : Str) : getK (kds ps) (.inr k) = (ps.find? fun p => decide (p.1 = k)).map fun p => p.2.d := by
  unfold getK kds
  induction ps with
  | nil => rfl
  | cons p ps ih =>
    simp only [List.map_cons, List.find?_cons]
    by_cases h : p.1 = k
    · simp [h]
    · have h1 : ¬ (Sum.inr p.1 : Key) = Sum.inr k := fun z => h (Sum.inr.inj z)
      simp only [h, h1, decide_false]
      exact ih
theorem getK_lk (ps : Prs) (k : Str) : (getK (kds ps) (.inr k)).getD .non = (lk ps k).d := by
  rw [getK_kds]
  unfold lk
  cases ps.find? (fun p => decide (p.1 = k)) <;> rfl
theorem find_mem {ps : Prs} {k : Str} {v : At} (nd : (ps.map (·.1)).Nodup) (h : (k, v) ∈ ps) : (ps.find? fun p => decide (p.1 = k)) = some (k, v) := by
  induction ps with
  | nil => cases h
  | cons p ps ih =>
    rw [List.map_cons, List.nodup_cons] at nd
    rw [List.find?_cons]
    rcases List.mem_cons.mp h with e | e
    · subst e; simp
    · have : ¬ p.1 = k := fun z => nd.1 (by rw [z]; exact List.mem_map.mpr ⟨_, e, rfl⟩)
      simp only [this, decide_false]
      exact ih nd.2 e
theorem find_none {ps : Prs} {k : Str} (h : k ∉ ps.map (·.1)) : (ps.find? fun p => decide (p.1 = k)) = none := by
  rw [List.find?_eq_none]
  intro p hp z
  exact h (List.mem_map.mpr ⟨p, hp, by simpa using z⟩)
theorem lk_mem {ps : Prs} {k : Str} {v : At} (nd : (ps.map (·.1)).Nodup) (h : (k, v) ∈ ps) : lk ps k = v := by unfold lk; rw [find_mem nd h]; rfl
theorem lk_none {ps : Prs} {k : Str} (h : k ∉ ps.map (·.1)) : lk ps k = .non := by unfold lk; rw [find_none h]; rfl
theorem lk_perm {ps qs : Prs} (p : ps.Perm qs) (nd : (ps.map (·.1)).Nodup) (k : Str) : lk ps k = lk qs k := by
  have nd2 : (qs.map (·.1)).Nodup := (p.map _).nodup_iff.mp nd
  by_cases h : k ∈ ps.map (·.1)
  · obtain ⟨⟨k', v⟩, hm, rfl⟩ := List.mem_map.mp h
    rw [lk_mem nd hm, lk_mem nd2 (p.mem_iff.mp hm)]
  · rw [lk_none h, lk_none (fun z => h ((p.map _).mem_iff.mpr z))]
theorem lk_cases (ps : Prs) (k : Str) : lk ps k = .non ∨ (k, lk ps k) ∈ ps := by
  unfold lk
  cases h : ps.find? (fun p => decide (p.1 = k)) with
  | none => exact .inl rfl
  | some p =>
    have h1 := List.find?_some h
    have h2 := List.mem_of_find?_eq_some h
    have : p.1 = k := by simpa using h1
    subst this
    exact .inr h2
/-! ### ascending -/
def asc (ps : Prs) : Prs := ps.mergeSort fun a b => !sLt b.1 a.1
theorem asc_perm (ps : Prs) : (asc ps).Perm ps := List.mergeSort_perm ps _
theorem asc_le (ps : Prs) : (asc ps).Pairwise fun a b => sLt b.1 a.1 = false := by
  have h := List.pairwise_mergeSort (le := fun (a b : Str × At) => !sLt b.1 a.1) (fun a b c h1 h2 => by
    simp only [Bool.not_eq_true'] at *
    exact sLe_trans h1 h2) (fun a b => by
    cases q : sLt b.1 a.1 with
    | false => rfl
    | true => simp [sLt_asymm q]) ps
  exact h.imp fun z => by simpa using z
theorem ndP {ps : Prs} (nd : (ps.map (·.1)).Nodup) {a b : Str × At} (ha : a ∈ ps) (hb : b ∈ ps) (e : a.1 = b.1) : a = b := by
  have h1 := lk_mem nd (k := a.1) (v := a.2) ha
  have h2 := lk_mem nd (k := b.1) (v := b.2) hb
  rw [← e, h1] at h2
  exact Prod.ext e h2
theorem asc_uniq {ps qs : Prs} (nd : (ps.map (·.1)).Nodup) (p : qs.Perm ps) (h : qs.Pairwise fun a b => sLt b.1 a.1 = false) : qs = asc ps :=
  (p.trans (asc_perm ps).symm).eq_of_pairwise (fun a b ha hb z1 z2 => ndP nd (p.mem_iff.mp ha) ((asc_perm ps).mem_iff.mp hb) (sLt_tri z2 z1)) h (asc_le ps)
theorem asc_of_perm {ps qs : Prs} (nd : (ps.map (·.1)).Nodup) (p : qs.Perm ps) : asc qs = asc ps := asc_uniq nd ((asc_perm qs).trans p) (asc_le qs)
theorem asc_asc {ps : Prs} (nd : (ps.map (·.1)).Nodup) : asc (asc ps) = asc ps := asc_of_perm nd (asc_perm ps)
theorem asc_keys (ps : Prs) : (asc ps).map (·.1) = sortS (ps.map (·.1)) := by
  refine sorted_uniq (((asc_perm ps).map _).trans (sortS_perm _).symm) ?_ (sortS_le _)
  rw [List.pairwise_map]
  exact asc_le ps
theorem asc_lk {ps : Prs} (nd : (ps.map (·.1)).Nodup) : asc ps = (sortS (ps.map (·.1))).map fun k => (k, lk ps k) := by
  rw [← asc_keys, List.map_map]
  conv => lhs; rw [← List.map_id (asc ps)]
  refine List.map_congr_left fun p hp => ?_
  have := lk_mem nd (k := p.1) (v := p.2) ((asc_perm ps).mem_iff.mp hp)
  simp [this]
theorem asc_filter (ps : Prs) (nd : (ps.map (·.1)).Nodup) (f : Str × At → Bool) : (asc ps).filter f = asc (ps.filter f) := by
  refine asc_uniq ?_ ((asc_perm ps).filter f) ((asc_le ps).filter f)
  exact nd.sublist ((List.filter_sublist (p := f) (l := ps)).map _)
/-! ### what pairs may be -/
structure GoodP (ps : Prs) : Prop where
  nd : (ps.map (·.1)).Nodup
  few : ps.length ≤ 24
  key : ∀ p ∈ ps, keyB (.str p.1) = true
  val : ∀ p ∈ ps, valB p.2.d = true
theorem GoodP.perm {ps qs : Prs} (h : GoodP ps) (p : qs.Perm ps) : GoodP qs :=
  ⟨(p.map _).nodup_iff.mpr h.nd, by rw [p.length_eq]; exact h.few, fun x hx => h.key x (p.mem_iff.mp hx), fun x hx => h.val x (p.mem_iff.mp hx)⟩
theorem GoodP.asc {ps : Prs} (h : GoodP ps) : GoodP (asc ps) := h.perm (asc_perm ps)
theorem GoodP.filter {ps : Prs} (h : GoodP ps) (f : Str × At → Bool) : GoodP (ps.filter f) :=
  ⟨h.nd.sublist ((List.filter_sublist (p := f) (l := ps)).map _), Nat.le_trans (List.length_filter_le _ _) h.few, fun x hx => h.key x (List.mem_filter.mp hx).1, fun x hx => h.val x (List.mem_filter.mp hx).1⟩
theorem GoodP.nil : GoodP [] := ⟨by simp, by simp, fun _ h => (by cases h), fun _ h => (by cases h)⟩
theorem key_ok {k : Str} (h : keyB (.str k) = true) : okD (.str k) = true := by
  simp [keyB, signB] at h
  have := h.1.1
  simp [okD]
  omega
theorem key_len {k : Str} (h : keyB (.str k) = true) : k.length ≤ 8 := by
  simp [keyB, signB] at h
  have := h.1.1
  omega
theorem val_ok {a : At} (h : valB a.d = true) : okD a.d = true := by
  cases a with
  | non => simp [okD]
  | int i => simp [okD]
  | str s =>
    simp [valB, fromB, signB] at h
    have := h.1
    simp [okD]
    omega
theorem val_not {a : At} (h : valB a.d = true) : a ≠ .non := fun z => by subst z; simp [valB, fromB, signB] at h
theorem GoodP.ok {ps : Prs} (h : GoodP ps) : okD (pd ps) = true := by
  simp only [okD, Bool.and_eq_true, List.all_eq_true]
  refine ⟨fun k hk => ?_, okL_iff.mpr fun d hd => ?_⟩
  · simp only [kds, List.map_map, List.mem_map] at hk
    obtain ⟨p, hm, rfl⟩ := hk
    have := key_ok (h.key p hm)
    simpa [okK, okD] using this
  · simp only [kds, List.map_map, List.mem_map] at hd
    obtain ⟨p, hm, rfl⟩ := hd
    exact val_ok (h.val p hm)
theorem GoodP.pairs {ps : Prs} (h : GoodP ps) : pairsB (pd ps) = true := by
  have hl := h.few
  simp only [pairsB, Bool.and_eq_true, decide_eq_true_eq, kds_zip]
  refine ⟨by simp [kds]; omega, ?_⟩
  rw [List.all_eq_true]
  intro kv hkv
  obtain ⟨p, hp, rfl⟩ := List.mem_map.mp hkv
  simp [h.key p hp, h.val p hp]
theorem GoodP.lk {ps : Prs} (h : GoodP ps) (k : Str) : vonB (lk ps k).d = true := by
  rcases lk_cases ps k with e | e
  · rw [e]; rfl
  · have := h.val _ e
    simp only [vonB, this, Bool.or_true]
/-! ### deeds -/
@[simp] theorem w_put_drop : (("put" : Str) = "drop") = False := by decide
@[simp] theorem w_put_get : (("put" : Str) = "get") = False := by decide
@[simp] theorem w_put_add : (("put" : Str) = "add") = False := by decide
@[simp] theorem w_put_swap : (("put" : Str) = "swap") = False := by decide
@[simp] theorem w_put_list : (("put" : Str) = "list") = False := by decide
@[simp] theorem w_put_all : (("put" : Str) = "all") = False := by decide
@[simp] theorem w_put_circle : (("put" : Str) = "circle") = False := by decide
@[simp] theorem w_drop_put : (("drop" : Str) = "put") = False := by decide
@[simp] theorem w_drop_get : (("drop" : Str) = "get") = False := by decide
@[simp] theorem w_drop_add : (("drop" : Str) = "add") = False := by decide
@[simp] theorem w_drop_swap : (("drop" : Str) = "swap") = False := by decide
@[simp] theorem w_drop_list : (("drop" : Str) = "list") = False := by decide
@[simp] theorem w_drop_all : (("drop" : Str) = "all") = False := by decide
@[simp] theorem w_drop_circle : (("drop" : Str) = "circle") = False := by decide
@[simp] theorem w_get_put : (("get" : Str) = "put") = False := by decide
@[simp] theorem w_get_drop : (("get" : Str) = "drop") = False := by decide
@[simp] theorem w_get_add : (("get" : Str) = "add") = False := by decide
@[simp] theorem w_get_swap : (("get" : Str) = "swap") = False := by decide
@[simp] theorem w_get_list : (("get" : Str) = "list") = False := by decide
@[simp] theorem w_get_all : (("get" : Str) = "all") = False := by decide
@[simp] theorem w_get_circle : (("get" : Str) = "circle") = False := by decide
@[simp] theorem w_add_put : (("add" : Str) = "put") = False := by decide
@[simp] theorem w_add_drop : (("add" : Str) = "drop") = False := by decide
@[simp] theorem w_add_get : (("add" : Str) = "get") = False := by decide
@[simp] theorem w_add_swap : (("add" : Str) = "swap") = False := by decide
@[simp] theorem w_add_list : (("add" : Str) = "list") = False := by decide
@[simp] theorem w_add_all : (("add" : Str) = "all") = False := by decide
@[simp] theorem w_add_circle : (("add" : Str) = "circle") = False := by decide
@[simp] theorem w_swap_put : (("swap" : Str) = "put") = False := by decide
@[simp] theorem w_swap_drop : (("swap" : Str) = "drop") = False := by decide
@[simp] theorem w_swap_get : (("swap" : Str) = "get") = False := by decide
@[simp] theorem w_swap_add : (("swap" : Str) = "add") = False := by decide
@[simp] theorem w_swap_list : (("swap" : Str) = "list") = False := by decide
@[simp] theorem w_swap_all : (("swap" : Str) = "all") = False := by decide
@[simp] theorem w_swap_circle : (("swap" : Str) = "circle") = False := by decide
@[simp] theorem w_list_put : (("list" : Str) = "put") = False := by decide
@[simp] theorem w_list_drop : (("list" : Str) = "drop") = False := by decide
@[simp] theorem w_list_get : (("list" : Str) = "get") = False := by decide
@[simp] theorem w_list_add : (("list" : Str) = "add") = False := by decide
@[simp] theorem w_list_swap : (("list" : Str) = "swap") = False := by decide
@[simp] theorem w_list_all : (("list" : Str) = "all") = False := by decide
@[simp] theorem w_list_circle : (("list" : Str) = "circle") = False := by decide
@[simp] theorem w_all_put : (("all" : Str) = "put") = False := by decide
@[simp] theorem w_all_drop : (("all" : Str) = "drop") = False := by decide
@[simp] theorem w_all_get : (("all" : Str) = "get") = False := by decide
@[simp] theorem w_all_add : (("all" : Str) = "add") = False := by decide
@[simp] theorem w_all_swap : (("all" : Str) = "swap") = False := by decide
@[simp] theorem w_all_list : (("all" : Str) = "list") = False := by decide
@[simp] theorem w_all_circle : (("all" : Str) = "circle") = False := by decide
@[simp] theorem w_circle_put : (("circle" : Str) = "put") = False := by decide
@[simp] theorem w_circle_drop : (("circle" : Str) = "drop") = False := by decide
@[simp] theorem w_circle_get : (("circle" : Str) = "get") = False := by decide
@[simp] theorem w_circle_add : (("circle" : Str) = "add") = False := by decide
@[simp] theorem w_circle_swap : (("circle" : Str) = "swap") = False := by decide
@[simp] theorem w_circle_list : (("circle" : Str) = "list") = False := by decide
@[simp] theorem w_circle_all : (("circle" : Str) = "all") = False := by decide
@[simp] theorem l_put : (("put" : Str).length ≤ 100000) = True := by decide
@[simp] theorem l_drop : (("drop" : Str).length ≤ 100000) = True := by decide
@[simp] theorem l_get : (("get" : Str).length ≤ 100000) = True := by decide
@[simp] theorem l_add : (("add" : Str).length ≤ 100000) = True := by decide
@[simp] theorem l_swap : (("swap" : Str).length ≤ 100000) = True := by decide
@[simp] theorem l_list : (("list" : Str).length ≤ 100000) = True := by decide
@[simp] theorem l_all : (("all" : Str).length ≤ 100000) = True := by decide
@[simp] theorem l_circle : (("circle" : Str).length ≤ 100000) = True := by decide
inductive Lone where
  | put (k : Str) (v : At) | drop (k : Str) | get (k : Str) | add (k : Str) (n : Int) | swap (k : Str) (o v : At)
def Lone.d : Lone → D
  | .put k v => .tup [.str "put", .str k, v.d]
  | .drop k => .tup [.str "drop", .str k]
  | .get k => .tup [.str "get", .str k]
  | .add k n => .tup [.str "add", .str k, .int n]
  | .swap k o v => .tup [.str "swap", .str k, o.d, v.d]
def Lone.key : Lone → Str
  | .put k _ => k
  | .drop k => k
  | .get k => k
  | .add k _ => k
  | .swap k _ _ => k
def Lone.Ok : Lone → Prop
  | .put k v => keyB (.str k) = true ∧ valB v.d = true
  | .drop k => keyB (.str k) = true
  | .get k => keyB (.str k) = true
  | .add k n => keyB (.str k) = true ∧ -M12 ≤ n ∧ n ≤ M12
  | .swap k o v => keyB (.str k) = true ∧ vonB o.d = true ∧ vonB v.d = true
theorem von_ok {a : At} (h : vonB a.d = true) : okD a.d = true := by
  cases a with
  | non => simp [okD]
  | int i => simp [okD]
  | str s => exact val_ok (a := .str s) (by simpa [vonB] using h)
theorem Lone.Ok.b {l : Lone} (h : l.Ok) : loneB l.d = true := by
  cases l <;> simp [Lone.Ok] at h <;> simp [Lone.d, loneB, addB, h]
theorem Lone.Ok.ok {l : Lone} (h : l.Ok) : okD l.d = true := by
  cases l with
  | put k v => have := key_ok h.1; have := val_ok h.2; simp_all [Lone.d, okD, okL]
  | drop k => have := key_ok h; simp_all [Lone.d, okD, okL]
  | get k => have := key_ok h; simp_all [Lone.d, okD, okL]
  | add k n => have := key_ok h.1; simp_all [Lone.d, okD, okL]
  | swap k o v => have := key_ok h.1; have := von_ok h.2.1; have := von_ok h.2.2; simp_all [Lone.d, okD, okL]
theorem Lone.Ok.k {l : Lone} (h : l.Ok) : keyB (.str l.key) = true := by
  cases l <;> simp [Lone.Ok] at h <;> first | exact h | exact h.1
inductive Deed where
  | one (l : Lone) | all (ls : List Lone) | list (a b : Str) | circle (ns : List Int)
def Deed.d : Deed → D
  | .one l => l.d
  | .all ls => .tup [.str "all", .tup (ls.map Lone.d)]
  | .list a b => .tup [.str "list", .str a, .str b]
  | .circle ns => .tup [.str "circle", .tup (ii ns)]
def Deed.Ok : Deed → Prop
  | .one l => l.Ok
  | .all ls => (1 ≤ ls.length ∧ ls.length ≤ 6) ∧ ∀ l ∈ ls, l.Ok
  | .list a b => keyB (.str a) = true ∧ keyB (.str b) = true
  | .circle ns => circB (.tup (ii ns)) = true
theorem Deed.Ok.ok {x : Deed} (h : x.Ok) : okD x.d = true := by
  cases x with
  | one l => exact Lone.Ok.ok h
  | all ls =>
    have : okL (ls.map Lone.d) = true := okL_iff.mpr fun d hd => by
      obtain ⟨l, hl, rfl⟩ := List.mem_map.mp hd
      exact (h.2 l hl).ok
    simp [Deed.d, okD, okL, this]
  | list a b => have := key_ok h.1; have := key_ok h.2; simp_all [Deed.d, okD, okL]
  | circle ns =>
    have : okL (ii ns) = true := okL_iff.mpr fun d hd => by
      obtain ⟨l, hl, rfl⟩ := List.mem_map.mp hd
      simp [okD]
    simp [Deed.d, okD, okL, this]
theorem Lone.word (l : Lone) : ∃ w r, l.d = .tup (.str w :: r) ∧ w ≠ "list" ∧ w ≠ "all" ∧ w ≠ "circle" := by
  cases l <;> exact ⟨_, _, rfl, by decide, by decide, by decide⟩
theorem Deed.Ok.b {x : Deed} (h : x.Ok) : deedB x.d = true := by
  cases x with
  | one l =>
    obtain ⟨w, r, e, h1, h2, h3⟩ := l.word
    have := Lone.Ok.b h
    show deedB l.d = true
    rw [e] at this ⊢
    simp [deedB, h1, h2, h3, this]
  | all ls =>
    have h1 := h.1
    have h2 := h.2
    simp [Deed.d, deedB, lotB, h1]
    exact fun l hl => (h2 l hl).b
  | list a b => have := h.1; have := h.2; simp_all [Deed.d, deedB]
  | circle ns => have h : circB (.tup (ii ns)) = true := h; simp [Deed.d, deedB, h]
/-! ### answers -/
inductive Ans where
  | was (o : At) | is (o : At) | sum (n : Int) | swapped | other (o : At) | kind | bound | full
def Ans.d : Ans → D
  | .was o => .tup [.str "was", o.d]
  | .is o => .tup [.str "is", o.d]
  | .sum n => .tup [.str "sum", .int n]
  | .swapped => .tup [.str "swapped"]
  | .other o => .tup [.str "other", o.d]
  | .kind => .tup [.str "kind"]
  | .bound => .tup [.str "bound"]
  | .full => .tup [.str "full"]
def Ans.bar : Ans → Bool
  | .other _ => true
  | .kind => true
  | .bound => true
  | .full => true
  | _ => false
inductive Rp where
  | one (a : Ans) | rows (ps : Prs) | done (as : List Ans) | none (i : Nat) | next (ns : List Int)
def Rp.d : Rp → D
  | .one a => a.d
  | .rows ps => .tup [.str "rows", .tup (ps.map fun p => .tup [.str p.1, p.2.d])]
  | .done as => .tup [.str "done", .tup (as.map Ans.d)]
  | .none i => .tup [.str "none", .int i]
  | .next ns => .tup [.str "next", .tup (ii ns)]
/-! ### the plain store -/
def put0 (ps : Prs) (k : Str) (v : At) : Option Prs :=
  let f := ps.filter fun p => !decide (p.1 = k)
  if v = .non then some f else if 24 ≤ f.length then none else some (f ++ [(k, v)])
def putA (ps : Prs) (k : Str) (v : At) (a : Ans) : Prs × Ans := match put0 ps k v with
  | none => (ps, .full)
  | some f => (f, a)
def At.num : At → Int
  | .int i => i
  | _ => 0
def stOne (ps : Prs) : Lone → Prs × Ans
  | .get k => (ps, .is (lk ps k))
  | .put k v => putA ps k v (.was (lk ps k))
  | .drop k => putA ps k .non (.was (lk ps k))
  | .add k n => match lk ps k with
    | .str _ => (ps, .kind)
    | o => if -M12 ≤ o.num + n ∧ o.num + n ≤ M12 then putA ps k (.int (o.num + n)) (.sum (o.num + n)) else (ps, .bound)
  | .swap k o v => if lk ps k = o then putA ps k v .swapped else (ps, .other (lk ps k))
def lotGo (ps : Prs) : Prs → Nat → List Ans → List Lone → Prs × Rp
  | h, _, acc, [] => (h, .done acc)
  | h, i, acc, l :: r => if (stOne h l).2.bar = true then (ps, .none i) else lotGo ps (stOne h l).1 (i + 1) (acc ++ [(stOne h l).2]) r
def stDeed (ps : Prs) : Deed → Prs × Rp
  | .one l => ((stOne ps l).1, .one (stOne ps l).2)
  | .all ls => lotGo ps ps 0 [] ls
  | .list a b => (ps, .rows (asc (ps.filter fun p => !sLt p.1 a && sLt p.1 b)))
  | .circle ns => (ps, .next ns)
def stRun : Prs → List Deed → Prs × List Rp
  | ps, [] => (ps, [])
  | ps, x :: r => let q := stRun (stDeed ps x).1 r; (q.1, (stDeed ps x).2 :: q.2)
/-! the order of the keys does not matter -/
theorem put0_perm {ps qs : Prs} (p : ps.Perm qs) (k : Str) (v : At) : (put0 ps k v = none ∧ put0 qs k v = none) ∨ ∃ f f', put0 ps k v = some f ∧ put0 qs k v = some f' ∧ f.Perm f' := by
  unfold put0
  have pf := p.filter fun x => !decide (x.1 = k)
  have hl := pf.length_eq
  by_cases h : v = .non
  · simp only [h, if_true]; exact .inr ⟨_, _, rfl, rfl, pf⟩
  · simp only [h, if_false]
    rw [hl]
    split
    · exact .inl ⟨rfl, rfl⟩
    · exact .inr ⟨_, _, rfl, rfl, pf.append_right _⟩
theorem putA_perm {ps qs : Prs} (p : ps.Perm qs) (k : Str) (v : At) (a : Ans) : (putA ps k v a).1.Perm (putA qs k v a).1 ∧ (putA ps k v a).2 = (putA qs k v a).2 := by
  unfold putA
  rcases put0_perm p k v with ⟨e1, e2⟩ | ⟨f, f', e1, e2, pf⟩
  · rw [e1, e2]; exact ⟨p, rfl⟩
  · rw [e1, e2]; exact ⟨pf, rfl⟩
theorem stOne_perm {ps qs : Prs} (p : ps.Perm qs) (nd : (ps.map (·.1)).Nodup) (l : Lone) : (stOne ps l).1.Perm (stOne qs l).1 ∧ (stOne ps l).2 = (stOne qs l).2 := by
  cases l with
  | get k => simp only [stOne, lk_perm p nd]; exact ⟨p, trivial⟩
  | put k v => simp only [stOne, lk_perm p nd]; exact putA_perm p _ _ _
  | drop k => simp only [stOne, lk_perm p nd]; exact putA_perm p _ _ _
  | add k n =>
    simp only [stOne, lk_perm p nd]
    split
    · exact ⟨p, rfl⟩
    · split
      · exact putA_perm p _ _ _
      · exact ⟨p, rfl⟩
  | swap k o v =>
    simp only [stOne, lk_perm p nd]
    split
    · exact putA_perm p _ _ _
    · exact ⟨p, rfl⟩
theorem put0_good {ps f : Prs} {k : Str} {v : At} (h : GoodP ps) (hk : keyB (.str k) = true) (hv : vonB v.d = true) (e : put0 ps k v = some f) : GoodP f := by
  unfold put0 at e
  have hf := h.filter fun p => !decide (p.1 = k)
  dsimp only at e
  split at e
  · cases e; exact hf
  · rename_i hn
    split at e
    · cases e
    · rename_i hl
      cases e
      refine ⟨?_, by simp; omega, fun p hp => ?_, fun p hp => ?_⟩
      · rw [List.map_append]
        refine List.nodup_append.mpr ⟨hf.nd, by simp, fun a ha b hb => ?_⟩
        obtain ⟨p, hp, rfl⟩ := List.mem_map.mp ha
        have := (List.mem_filter.mp hp).2
        simp at hb this
        rw [hb]; exact this
      · rcases List.mem_append.mp hp with z | z
        · exact hf.key p z
        · cases List.mem_singleton.mp z; exact hk
      · rcases List.mem_append.mp hp with z | z
        · exact hf.val p z
        · cases List.mem_singleton.mp z
          cases v with
          | non => exact absurd rfl hn
          | int i => simpa [vonB] using hv
          | str s => simpa [vonB] using hv
theorem putA_good {ps : Prs} {k : Str} {v : At} {a : Ans} (h : GoodP ps) (hk : keyB (.str k) = true) (hv : vonB v.d = true) : GoodP (putA ps k v a).1 := by
  unfold putA
  cases e : put0 ps k v with
  | none => exact h
  | some f => exact put0_good h hk hv e
theorem stOne_good {ps : Prs} {l : Lone} (h : GoodP ps) (hl : l.Ok) : GoodP (stOne ps l).1 := by
  cases l with
  | get k => exact h
  | put k v => exact putA_good h hl.1 (by simp [vonB, hl.2])
  | drop k => exact putA_good h hl rfl
  | add k n =>
    simp only [stOne]
    split
    · exact h
    · split
      · rename_i hb
        refine putA_good h hl.1 ?_
        simp only [At.d_int, vonB, valB, fromB, Bool.or_eq_true, decide_eq_true_eq]
        exact .inr (.inl (by simp only [GR, M12] at *; omega))
      · exact h
  | swap k o v =>
    simp only [stOne]
    split
    · exact putA_good h hl.1 hl.2.2
    · exact h
theorem lotGo_perm {ps qs : Prs} (p : ps.Perm qs) : ∀ {ls : List Lone} {h h' : Prs} {i : Nat} {acc : List Ans}, h.Perm h' → GoodP h → (∀ l ∈ ls, l.Ok) → (lotGo ps h i acc ls).1.Perm (lotGo qs h' i acc ls).1 ∧ (lotGo ps h i acc ls).2 = (lotGo qs h' i acc ls).2
  | [], h, h', i, acc, q, _, _ => ⟨q, rfl⟩
  | l :: r, h, h', i, acc, q, gd, hk => by
    obtain ⟨z1, z2⟩ := stOne_perm q gd.nd l
    rw [lotGo, lotGo, z2]
    split
    · exact ⟨p, rfl⟩
    · exact lotGo_perm p z1 (stOne_good gd (hk l (List.mem_cons_self ..))) fun x hx => hk x (List.mem_cons_of_mem _ hx)
theorem lotGo_good {ps : Prs} (g0 : GoodP ps) : ∀ {ls : List Lone} {h : Prs} {i : Nat} {acc : List Ans}, GoodP h → (∀ l ∈ ls, l.Ok) → GoodP (lotGo ps h i acc ls).1
  | [], h, i, acc, gd, _ => gd
  | l :: r, h, i, acc, gd, hk => by
    rw [lotGo]
    split
    · exact g0
    · exact lotGo_good g0 (stOne_good gd (hk l (List.mem_cons_self ..))) fun x hx => hk x (List.mem_cons_of_mem _ hx)
theorem stDeed_perm {ps qs : Prs} (p : ps.Perm qs) (gd : GoodP ps) {x : Deed} (hx : x.Ok) : (stDeed ps x).1.Perm (stDeed qs x).1 ∧ (stDeed ps x).2 = (stDeed qs x).2 := by
  cases x with
  | one l =>
    obtain ⟨z1, z2⟩ := stOne_perm p gd.nd l
    exact ⟨z1, congrArg Rp.one z2⟩
  | all ls => exact lotGo_perm p p gd hx.2
  | list a b =>
    refine ⟨p, ?_⟩
    simp only [stDeed]
    rw [asc_of_perm (gd.perm p.symm |>.filter _).nd (p.filter _)]
  | circle ns => exact ⟨p, rfl⟩
theorem stDeed_good {ps : Prs} (gd : GoodP ps) {x : Deed} (hx : x.Ok) : GoodP (stDeed ps x).1 := by
  cases x with
  | one l => exact stOne_good gd hx
  | all ls => exact lotGo_good gd gd hx.2
  | list a b => exact gd
  | circle ns => exact gd
theorem stRun_perm : ∀ {xs : List Deed} {ps qs : Prs}, ps.Perm qs → GoodP ps → (∀ x ∈ xs, x.Ok) → (stRun ps xs).1.Perm (stRun qs xs).1 ∧ (stRun ps xs).2 = (stRun qs xs).2
  | [], _, _, p, _, _ => ⟨p, rfl⟩
  | x :: r, ps, qs, p, gd, hk => by
    have hx := hk x (List.mem_cons_self ..)
    obtain ⟨z1, z2⟩ := stDeed_perm p gd hx
    obtain ⟨y1, y2⟩ := stRun_perm (xs := r) z1 (stDeed_good gd hx) fun y hy => hk y (List.mem_cons_of_mem _ hy)
    simp only [stRun]
    exact ⟨y1, by rw [z2, y2]⟩
theorem stRun_good : ∀ {xs : List Deed} {ps : Prs}, GoodP ps → (∀ x ∈ xs, x.Ok) → GoodP (stRun ps xs).1
  | [], _, gd, _ => gd
  | x :: r, ps, gd, hk => stRun_good (xs := r) (stDeed_good gd (hk x (List.mem_cons_self ..))) fun y hy => hk y (List.mem_cons_of_mem _ hy)
end SP

set_option Elab.async false
set_option linter.all false
set_option maxRecDepth 100000
set_option maxHeartbeats 1000000
namespace SP
open PySem PySem.Spec PyProof.Rows L2 DL GEN
/-- an item of a dict -/
def itD (p : Str × At) : D := .ptp [.str p.1, p.2.d]
theorem items_pd (ps : Prs) : ((((kds ps).map (·.1)).zip ((kds ps).map (·.2))).map fun kv => D.ptp [ofKey kv.1, kv.2]) = ps.map itD := by
  rw [kds_zip]; simp [kds, itD, Function.comp_def]
def itK : D → Key
  | .ptp [.str x, _] => .inr x
  | .str x => .inr x
  | _ => .inl 0
def itV : D → D
  | .ptp [_, v] => v
  | _ => .non
theorem nd_inr {l : List Str} (h : l.Nodup) : (l.map (Sum.inr : Str → Key)).Nodup := by
  unfold List.Nodup at *
  rw [List.pairwise_map]
  exact h.imp fun z e => z (Sum.inr.inj e)
theorem fold_items {ps : Prs} (nd : (ps.map (·.1)).Nodup) : foldP itK itV [] (ps.map itD) = kds ps := by
  rw [foldP_nd]
  · simp [kds, itD, itK, itV, Function.comp_def]
  · have : (ps.map itD).map itK = (ps.map (·.1)).map Sum.inr := by simp [itD, itK, Function.comp_def]
    rw [this]
    simp only [List.map_nil, List.nil_append]
    exact nd_inr nd
theorem atoms_kds (ps : Prs) : atomsK (kds ps) = true := by
  simp only [atomsK, List.all_eq_true, kds, List.mem_map]
  rintro _ ⟨p, _, rfl⟩
  exact p.2.atom
theorem kds_len (ps : Prs) : (kds ps).length = ps.length := by simp [kds]
theorem kds_snoc (ps : Prs) (k : Str) (v : At) : kds ps ++ [(Sum.inr k, v.d)] = kds (ps ++ [(k, v)]) := by simp [kds]
theorem kds_keys (ps : Prs) : (kds ps).map (·.1) = (ps.map (·.1)).map Sum.inr := by simp [kds, Function.comp_def]
/-- {one: found[one] for one in sorted(found)} -/
theorem asc_loop {ps : Prs} (gd : GoodP ps) {i j : Nat} {ρ : Rho} {g : G} {Q : List (Key × D) → G → Prop} (hi : i < ρ.length) (hj : ρ[j]? = some (.val (pd ps))) (hij : i ≠ j) (q : Q (kds (asc ps)) g) :
    dcGo (.nm i) tTrue (eVar i) (eDix (eVar j) (eVar i)) ρ ((sortS (ps.map (·.1))).map D.str) [] g Q := by
  refine dcGo_w (fun _ => true) itK (fun d => match d with | .str k => (lk ps k).d | _ => .non) (fun d hd => ?_) ?_
  · obtain ⟨k, hk, rfl⟩ := List.mem_map.mp hd
    have hk' := (sortS_perm _).mem_iff.mp hk
    obtain ⟨⟨k2, v⟩, hm, rfl⟩ := List.mem_map.mp hk'
    refine ⟨ρ.set i (.val (.str k2)), rfl, fun K kk => kk, fun _ => ⟨fun K kk => ?_, fun K kk => ?_⟩⟩
    · show eVar i _ g K _
      simp only [eVar, List.getElem?_set_self hi]
      exact kk
    · have e1 : (ρ.set i (.val (.str k2)))[j]? = some (.val (pd ps)) := by rw [List.getElem?_set_ne hij]; exact hj
      have kk' : K (lk ps k2).d g := kk
      rw [lk_mem gd.nd hm] at kk'
      simp only [eDix, eVar, e1, List.getElem?_set_self hi]
      show (match getK (((kds ps).map (·.1)).zip ((kds ps).map (·.2))) (.inr k2) with | some d => K d g | none => False)
      rw [kds_zip, getK_kds, find_mem gd.nd hm]
      exact kk'
  · rw [List.filter_eq_self.mpr (fun _ _ => rfl), foldP_nd]
    · have : asc ps = (sortS (ps.map (·.1))).map fun k => (k, lk ps k) := asc_lk gd.nd
      rw [this] at q
      simpa [kds, itK, Function.comp_def] using q
    · have e : ((sortS (ps.map (·.1))).map D.str).map itK = (sortS (ps.map (·.1))).map Sum.inr := by simp [itK, Function.comp_def]
      rw [e]
      have nd : (sortS (ps.map (·.1))).Nodup := (sortS_perm _).nodup_iff.mpr gd.nd
      simp only [List.map_nil, List.nil_append]
      exact nd_inr nd
theorem sorted_pd {ps : Prs} (gd : GoodP ps) : sortedD3 [pd ps] = some ((sortS (ps.map (·.1))).map D.str) := by
  have hl := gd.few
  show sortedD2 [.dic ((kds ps).map (·.1)) ((kds ps).map (·.2))] = _
  rw [kds_keys]
  exact sortedD2_dic _ _ (by simp; omega)
def ascending_pairs : FSp := fun ds g Q _ => ∃ ps, ds = [pd ps] ∧ GoodP ps ∧ Q (pd (asc ps)) g
theorem ascending_pairs_len : ∀ ds g Q E, ascending_pairs ds g Q E → ds.length = 1 := by
  rintro ds g Q E ⟨i, rfl, _⟩; rfl
theorem ascending_pairs_ok : ∀ ds g Q E, ascending_pairs ds g Q E → m_ascending_pairs (endS Q g) (wS E) (startR N_ascending_pairs ds) g := by
  rintro ds g Q E ⟨ps, rfl, gd, q⟩
  have sz := sizeLine_eq
  have hl := gd.few
  have e := sorted_pd gd
  have l2 : (sortS (ps.map (·.1))).length = ps.length := by rw [(sortS_perm _).length_eq, List.length_map]
  simp [m_ascending_pairs, dDc]
  rw [e]
  simp
  refine ⟨by omega, asc_loop gd (by simp) rfl (by decide) ?_⟩
  exact q
def with_key : FSp := fun ds g Q _ => ∃ (ps : Prs) (k : Str) (v : At), ds = [pd ps, .str k, v.d] ∧ GoodP ps ∧ keyB (.str k) = true ∧ vonB v.d = true ∧ Q (match put0 ps k v with | none => .non | some f => pd (asc f)) g
theorem with_key_len : ∀ ds g Q E, with_key ds g Q E → ds.length = 3 := by
  rintro ds g Q E ⟨i, _, _, rfl, _⟩; rfl
theorem with_key_ok : ∀ ds g Q E, with_key ds g Q E → m_with_key (endS Q g) (wS E) (startR N_with_key ds) g := by
  rintro ds g Q E ⟨ps, k, v, rfl, gd, hk, hv, q⟩
  have sz := sizeLine_eq
  have hl := gd.few
  have gf := gd.filter fun p => !decide (p.1 = k)
  have lf := gf.few
  -- the end
  have fin : ∀ (a : Addr) (f : Prs), GoodP f → g a = none → Q (pd (asc f)) g →
      sLock 3 (sRet (eDfz (dDc (iSeq (eFz (nL sortedD3 (esCons (eVar 3) esNil)))) (.nm 4) tTrue (eVar 4) (eDix (eVar 3) (eVar 4)) [4]))) (endS Q g) (wS E) [.val (pd ps), .val (.str k), .val v.d, .val (.ref a), .no, .no] (gset g a (.dct (kds f))) := by
    intro a f g2 ga q
    have hf := g2.few
    have l2 : (sortS (f.map (·.1))).length = f.length := by rw [(sortS_perm _).length_eq, List.length_map]
    simp [ga, gdel_gset ga, dDc]
    rw [sorted_pd g2]
    simp
    refine ⟨by omega, asc_loop g2 (by simp) rfl (by decide) ?_⟩
    exact q
  simp only [m_with_key, sSeq, sSet, eDtrk, dDc]
  simp only [iItemD, eVar, startR, List.map_cons, List.map_nil, List.getElem?_cons_zero, List.cons_append, List.nil_append]
  rw [items_pd]
  refine ⟨by simp; omega, ?_⟩
  refine dcGo_w (fun d => match d with | .ptp [.str x, _] => !decide (x = k) | _ => true) itK itV (fun d hd => ?_) ?_
  · obtain ⟨p, hp, rfl⟩ := List.mem_map.mp hd
    refine ⟨_, rfl, fun K kk => ?_, fun _ => ⟨fun K kk => ?_, fun K kk => ?_⟩⟩
    · simpa [itD] using kk
    · simpa [itD, itK] using kk
    · simpa [itD, itV] using kk
  · have e1 : (ps.map itD).filter (fun d => match d with | .ptp [.str x, _] => !decide (x = k) | _ => true) = (ps.filter fun p => !decide (p.1 = k)).map itD := by
      rw [List.filter_map]; rfl
    rw [e1, fold_items gf.nd]
    refine ⟨atoms_kds _, fun a _ ga => ?_⟩
    by_cases hn : v = .non
    · subst hn
      simp [-sLock_eq]
      have e2 : put0 ps k .non = some (ps.filter fun p => !decide (p.1 = k)) := by simp [put0]
      rw [e2] at q
      exact fin a _ gf ga q
    · have en : nonB v.d = false := by cases v <;> first | rfl | exact absurd rfl hn
      simp [-sLock_eq, -nonB, en]
      rw [kds_len]
      by_cases h24 : 24 ≤ (ps.filter fun p => !decide (p.1 = k)).length
      · have e2 : put0 ps k v = none := by simp only [put0, hn, h24, if_true, if_false]
        have e3 : (24 : Int) ≤ ((ps.filter fun p => !decide (p.1 = k)).length : Int) := by omega
        rw [e2] at q
        simp [e3, ga, gdel_gset ga]
        exact q
      · have e2 : put0 ps k v = some ((ps.filter fun p => !decide (p.1 = k)) ++ [(k, v)]) := by simp only [put0, hn, h24, if_false]
        have e3 : ¬ (24 : Int) ≤ ((ps.filter fun p => !decide (p.1 = k)).length : Int) := by omega
        have gf2 := put0_good gd hk hv e2
        rw [e2] at q
        simp [-sLock_eq, e3, v.atom]
        have nk : (Sum.inr k : Key) ∉ (kds (ps.filter fun p => !decide (p.1 = k))).map (·.1) := by
          rw [kds_keys]
          simp
        rw [putD_new nk, kds_snoc]
        exact ⟨by omega, fin a _ gf2 ga q⟩
/-- pairs as they stand, ascending -/
theorem pd_asc {ps : Prs} (h : asc ps = ps) : pd ps = pd (asc ps) := by rw [h]
def put_in : FSp := fun ds g Q _ => ∃ (ps : Prs) (k : Str) (v : At) (a : Ans), ds = [pd ps, .str k, v.d, a.d] ∧ (GoodP ps ∧ asc ps = ps) ∧ keyB (.str k) = true ∧ vonB v.d = true ∧ Q (.tup [pd (asc (putA ps k v a).1), (putA ps k v a).2.d]) g
theorem put_in_len : ∀ ds g Q E, put_in ds g Q E → ds.length = 4 := by
  rintro ds g Q E ⟨i, _, _, _, rfl, _⟩; rfl
theorem put_in_ok : ∀ ds g Q E, put_in ds g Q E → m_put_in with_key (endS Q g) (wS E) (startR N_put_in ds) g := by
  rintro ds g Q E ⟨ps, k, v, a, rfl, ⟨gd, ha⟩, hk, hv, q⟩
  have sz := sizeLine_eq
  simp [m_put_in]
  refine ⟨ps, k, v, rfl, gd, hk, hv, ?_⟩
  unfold putA at q
  cases e : put0 ps k v with
  | none =>
    rw [e] at q
    simp [sz]
    rw [← pd_asc ha] at q
    exact q
  | some f =>
    rw [e] at q
    simp [sz]
    exact q
def are_same : FSp := fun ds g Q _ => ∃ (a b : At), ds = [a.d, b.d] ∧ vonB a.d = true ∧ vonB b.d = true ∧ Q (.bl (decide (a = b))) g
theorem are_same_len : ∀ ds g Q E, are_same ds g Q E → ds.length = 2 := by
  rintro ds g Q E ⟨i, _, rfl, _⟩; rfl
theorem at_eq (a b : At) : eqD2 a.d b.d = some (.bl (decide (a = b))) := by
  cases a <;> cases b <;> simp <;> (rw [eqD2_of (by rfl)]; simp [py, PyData.eqv])
theorem at_ne (a b : At) : neD2 a.d b.d = some (.bl (!decide (a = b))) := by
  cases a <;> cases b <;> simp <;> (rw [neD2_of (by rfl)]; simp [py, PyData.eqv])
theorem are_same_ok : ∀ ds g Q E, are_same ds g Q E → m_are_same is_whole (endS Q g) (wS E) (startR N_are_same ds) g := by
  rintro ds g Q E ⟨a, b, rfl, ha, hb, q⟩
  simp [m_are_same]
  refine ⟨_, rfl, von_ok ha, ?_⟩
  simp
  refine ⟨_, rfl, von_ok hb, ?_⟩
  simp [at_eq]
  cases a <;> cases b <;> simp [wholeB] at q ⊢ <;> exact q
def added_in : FSp := fun ds g Q _ => ∃ (ps : Prs) (k : Str) (n : Int), ds = [pd ps, .str k, .int n] ∧ (GoodP ps ∧ asc ps = ps) ∧ (keyB (.str k) = true ∧ -M12 ≤ n ∧ n ≤ M12) ∧ Q (.tup [pd (asc (stOne ps (.add k n)).1), (stOne ps (.add k n)).2.d]) g
theorem added_in_len : ∀ ds g Q E, added_in ds g Q E → ds.length = 3 := by
  rintro ds g Q E ⟨i, _, _, rfl, _⟩; rfl
theorem getK_or (ps : Prs) (k : Str) (d : D) : (getK (kds ps) (.inr k)).getD d = if lk ps k = .non ∧ k ∉ ps.map (·.1) then d else (lk ps k).d := by
  rw [getK_kds]
  unfold lk
  cases h : ps.find? (fun p => decide (p.1 = k)) with
  | none =>
    have : k ∉ ps.map (·.1) := fun z => by
      obtain ⟨p, hp, e⟩ := List.mem_map.mp z
      rw [List.find?_eq_none] at h
      exact h p hp (by simpa using e)
    simp [this]
  | some p =>
    have h1 := List.find?_some h
    have h2 := List.mem_of_find?_eq_some h
    have : k ∈ ps.map (·.1) := List.mem_map.mpr ⟨p, h2, by simpa using h1⟩
    simp [this]
theorem added_in_ok : ∀ ds g Q E, added_in ds g Q E → m_added_in put_in is_whole is_addend (endS Q g) (wS E) (startR N_added_in ds) g := by
  rintro ds g Q E ⟨ps, k, n, rfl, ⟨gd, ha⟩, ⟨hk, h1, h2⟩, q⟩
  have sz := sizeLine_eq
  have eo : ∀ o : Int, (lk ps k = .int o ∨ (lk ps k = .non ∧ o = 0)) → stOne ps (.add k n) = if -M12 ≤ o + n ∧ o + n ≤ M12 then putA ps k (.int (o + n)) (.sum (o + n)) else (ps, .bound) := by
    rintro o (e | ⟨e, rfl⟩) <;> (simp only [stOne, e]; rfl)
  have go : ∀ o : Int, (lk ps k = .int o ∨ (lk ps k = .non ∧ o = 0)) → is_addend [.int (o + n)] g (fun d g' => (d = .bl true → put_in [pd ps, .str k, .int (o + n), .tup [.str "sum", .int (o + n)]] g' Q E) ∧ (d = .bl false → Q (.tup [pd ps, .tup [.str "bound"]]) g')) (fun _ _ => False) := by
    intro o ho
    rw [eo o ho] at q
    refine ⟨_, rfl, by simp [okD], ?_⟩
    by_cases hb : -M12 ≤ o + n ∧ o + n ≤ M12
    · rw [if_pos hb] at q
      have e1 : addB (.int (o + n)) = true := by simp only [addB, decide_eq_true_eq]; exact hb
      rw [e1]
      refine ⟨fun _ => ?_, fun z => by cases z⟩
      refine ⟨ps, k, .int (o + n), .sum (o + n), rfl, ⟨gd, ha⟩, hk, ?_, q⟩
      simp only [At.d_int, vonB, valB, fromB, Bool.or_eq_true, decide_eq_true_eq]
      exact .inr (.inl (by simp only [GR, M12] at *; omega))
    · rw [if_neg hb, ← pd_asc ha] at q
      have e1 : addB (.int (o + n)) = false := by simp only [addB, decide_eq_false_iff_not]; exact hb
      rw [e1]
      exact ⟨fun z => (by cases z), fun _ => q⟩
  simp only [m_added_in, sSeq, sSet, eGet, eVar, eC, startR, List.map_cons, List.map_nil, List.cons_append, List.nil_append, List.getElem?_cons_zero, List.getElem?_cons_succ, DL.keyOf]
  refine ⟨⟨_, _, rfl⟩, ?_⟩
  rw [kds_zip, getK_or]
  cases e : lk ps k with
  | non =>
    have hn : k ∉ ps.map (·.1) := fun z => by
      obtain ⟨⟨k', v⟩, hm, rfl⟩ := List.mem_map.mp z
      rw [lk_mem gd.nd hm] at e
      exact val_not (gd.val _ hm) e
    obtain ⟨d, hd, h3, h4⟩ := go 0 (.inr ⟨e, rfl⟩)
    cases hd
    rw [if_pos ⟨rfl, hn⟩]
    simp
    refine ⟨_, rfl, rfl, ?_⟩
    simp [wholeB]
    refine ⟨_, rfl, h3, ?_⟩
    simp only [Int.zero_add] at h4 ⊢
    cases hb : addB (.int n) <;> simp [hb, sz] at h4 ⊢ <;> exact h4
  | int o =>
    obtain ⟨d, hd, h3, h4⟩ := go o (.inl e)
    cases hd
    rw [if_neg (fun z => by cases z.1)]
    simp
    refine ⟨_, rfl, rfl, ?_⟩
    simp [wholeB]
    refine ⟨_, rfl, h3, ?_⟩
    cases hb : addB (.int (o + n)) <;> simp [hb, sz] at h4 ⊢ <;> exact h4
  | str z =>
    rw [if_neg (fun z => by cases z.1)]
    simp
    have h := gd.lk k
    rw [e] at h
    refine ⟨_, rfl, von_ok (a := .str z) h, ?_⟩
    simp [wholeB, sz]
    simp only [stOne, e] at q
    rw [← pd_asc ha] at q
    exact q
end SP

set_option Elab.async false
set_option linter.all false
set_option maxRecDepth 100000
set_option maxHeartbeats 1000000
namespace SP
open PySem PySem.Spec PyProof.Rows L2 DL GEN
def lot_deed_in : FSp := fun ds g Q _ => ∃ (ps : Prs) (l : Lone), ds = [pd ps, l.d] ∧ (GoodP ps ∧ asc ps = ps) ∧ l.Ok ∧ Q (.tup [pd (asc (stOne ps l).1), (stOne ps l).2.d]) g
theorem lot_deed_in_len : ∀ ds g Q E, lot_deed_in ds g Q E → ds.length = 2 := by
  rintro ds g Q E ⟨i, _, rfl, _⟩; rfl
theorem getK_non (ps : Prs) (k : Str) : (getK (((kds ps).map (·.1)).zip ((kds ps).map (·.2))) (.inr k)).getD .non = (lk ps k).d := by
  rw [kds_zip, getK_lk]
theorem lot_deed_in_ok : ∀ ds g Q E, lot_deed_in ds g Q E → m_lot_deed_in put_in added_in are_same (endS Q g) (wS E) (startR N_lot_deed_in ds) g := by
  rintro ds g Q E ⟨ps, l, rfl, ⟨gd, ha⟩, hl, q⟩
  have sz := sizeLine_eq
  have e0 : startR N_lot_deed_in [pd ps, l.d] = [.val (pd ps), .val l.d, .no, .no] := rfl
  rw [e0]
  simp only [m_lot_deed_in, sSeq, sSet, eGet1, eVar, eC, DL.e2, List.getElem?_cons_zero, List.getElem?_cons_succ, DL.keyOf]
  cases l with
  | put k v =>
    simp only [Lone.d, ixD, at1, List.set_cons_succ, List.set_cons_zero, List.getElem?_cons_zero, List.getElem?_cons_succ, DL.keyOf]
    refine ⟨⟨_, _, rfl⟩, ?_⟩
    rw [getK_non]
    simp [at0, at2, sCases_cons, sz]
    exact ⟨ps, k, v, .was (lk ps k), rfl, ⟨gd, ha⟩, hl.1, by simp [vonB, hl.2], q⟩
  | drop k =>
    simp only [Lone.d, ixD, at1, List.set_cons_succ, List.set_cons_zero, List.getElem?_cons_zero, List.getElem?_cons_succ, DL.keyOf]
    refine ⟨⟨_, _, rfl⟩, ?_⟩
    rw [getK_non]
    simp [at0, sCases_cons, sz]
    exact ⟨ps, k, .non, .was (lk ps k), rfl, ⟨gd, ha⟩, hl, rfl, q⟩
  | get k =>
    simp only [Lone.d, ixD, at1, List.set_cons_succ, List.set_cons_zero, List.getElem?_cons_zero, List.getElem?_cons_succ, DL.keyOf]
    refine ⟨⟨_, _, rfl⟩, ?_⟩
    rw [getK_non]
    simp [at0, sCases_cons, sCases, sz]
    simp only [stOne, ← pd_asc ha] at q
    exact q
  | add k n =>
    simp only [Lone.d, ixD, at1, List.set_cons_succ, List.set_cons_zero, List.getElem?_cons_zero, List.getElem?_cons_succ, DL.keyOf]
    refine ⟨⟨_, _, rfl⟩, ?_⟩
    rw [getK_non]
    simp [at0, at2, sCases_cons, sz]
    exact ⟨ps, k, n, rfl, ⟨gd, ha⟩, hl, q⟩
  | swap k o v =>
    simp only [Lone.d, ixD, at1, List.set_cons_succ, List.set_cons_zero, List.getElem?_cons_zero, List.getElem?_cons_succ, DL.keyOf]
    refine ⟨⟨_, _, rfl⟩, ?_⟩
    rw [getK_non]
    simp [at0, at2, at3, sCases_cons, sz]
    refine ⟨lk ps k, o, rfl, gd.lk k, hl.2.1, ?_⟩
    simp only [stOne] at q
    by_cases e : lk ps k = o
    · rw [if_pos e] at q
      simp [e, sz]
      exact ⟨ps, k, v, .swapped, rfl, ⟨gd, ha⟩, hl.1, hl.2.2, q⟩
    · rw [if_neg e, ← pd_asc ha] at q
      simp [e, sz]
      exact q
def does_bar : FSp := fun ds g Q _ => ∃ a : Ans, ds = [a.d] ∧ Q (.bl a.bar) g
theorem does_bar_len : ∀ ds g Q E, does_bar ds g Q E → ds.length = 1 := by
  rintro ds g Q E ⟨i, rfl, _⟩; rfl
theorem does_bar_ok : ∀ ds g Q E, does_bar ds g Q E → m_does_bar (endS Q g) (wS E) (startR N_does_bar ds) g := by
  rintro ds g Q E ⟨a, rfl, q⟩
  have e1 : inD a.d c_REFUSALS = some (.bl (match a with | .kind => true | .bound => true | .full => true | _ => false)) := by
    cases a with
    | was o => cases o <;> rfl
    | is o => cases o <;> rfl
    | other o => cases o <;> rfl
    | sum n => rfl
    | _ => rfl
  simp only [m_does_bar, sRet, eOr_eq, e2, eVar, eC, startR, List.map_cons, List.map_nil, List.cons_append, List.nil_append, List.getElem?_cons_zero, thaw, thaw1]
  rw [e1]
  cases a <;> simp [Ans.bar, Ans.d, at0] at q ⊢ <;> exact q
def lot_in : FSp := fun ds g Q _ => ∃ (ps : Prs) (ls : List Lone), ds = [pd ps, .tup (ls.map Lone.d)] ∧ (GoodP ps ∧ asc ps = ps) ∧ (ls.length ≤ 6 ∧ ∀ l ∈ ls, l.Ok) ∧ Q (.tup [pd (asc (lotGo ps ps 0 [] ls).1), (lotGo ps ps 0 [] ls).2.d]) g
theorem lot_in_len : ∀ ds g Q E, lot_in ds g Q E → ds.length = 2 := by
  rintro ds g Q E ⟨i, _, rfl, _⟩; rfl
theorem ans_ok (a : Ans) : nol a.d = true := by
  cases a with
  | was o => cases o <;> rfl
  | is o => cases o <;> rfl
  | other o => cases o <;> rfl
  | _ => rfl
theorem lot_in_ok : ∀ ds g Q E, lot_in ds g Q E → m_lot_in lot_deed_in does_bar (endS Q g) (wS E) (startR N_lot_in ds) g := by
  rintro ds g Q E ⟨ps, ls, rfl, ⟨gd, ha⟩, ⟨h6, hls⟩, q⟩
  have sz := sizeLine_eq
  generalize hL : lotGo ps ps 0 [] ls = L at q
  simp [m_lot_in, sz]
  refine forGo_w (fun ds ρ g' => g' = g ∧ ∃ (h : Prs) (i : Nat) (as : List Ans) (rest : List Lone) (s4 s5 s6 : Sl), ds = enumL i (rest.map Lone.d) ∧ ρ = [.val (pd ps), .val (.tup (ls.map Lone.d)), .val (pd (asc h)), .acc (as.map Ans.d), s4, s5, s6] ∧
    GoodP h ∧ (as.length + rest.length ≤ 6 ∧ ∀ l ∈ rest, l.Ok) ∧ lotGo ps h i as rest = L) ?_ ?_ ⟨rfl, ps, 0, [], ls, _, _, _, rfl, by rw [ha]; rfl, gd, ⟨by simpa using h6, hls⟩, hL⟩
  · rintro d ds ρ g' N ⟨rfl, h, i, as, rest, s4, s5, s6, e, rfl, gh, ⟨hr, hok⟩, hLL⟩ nx
    cases rest with
    | nil => cases e
    | cons l rest =>
      rw [List.map_cons, enumL] at e
      cases e
      have hl := hok l (List.mem_cons_self ..)
      obtain ⟨z1, z2⟩ := stOne_perm (asc_perm h) gh.asc.nd l
      refine ⟨_, rfl, ?_⟩
      simp
      refine ⟨asc h, l, rfl, ⟨gh.asc, asc_asc gh.nd⟩, hl, ?_⟩
      rw [z2, asc_of_perm (stOne_good gh hl).nd z1]
      simp
      refine ⟨_, rfl, ?_⟩
      rw [lotGo] at hLL
      cases hb : (stOne h l).2.bar with
      | true =>
        rw [hb, if_pos rfl] at hLL
        subst hLL
        simp [sz]
        rw [← pd_asc ha] at q
        exact q
      | false =>
        rw [hb, if_neg (by simp)] at hLL
        simp at hr
        simp [sz]
        refine ⟨by omega, ?_⟩
        refine nx _ _ ⟨rfl, (stOne h l).1, i + 1, as ++ [(stOne h l).2], rest, .val (.int i), .val l.d, .val (stOne h l).2.d, rfl, ?_, stOne_good gh hl, ⟨by simp; omega, fun x hx => hok x (List.mem_cons_of_mem _ hx)⟩, hLL⟩
        simp
  · rintro ρ g' ⟨rfl, h, i, as, rest, s4, s5, s6, e, rfl, gh, ⟨hr, hok⟩, hLL⟩
    cases rest with
    | cons l rest => rw [List.map_cons, enumL] at e; cases e
    | nil =>
      rw [lotGo] at hLL
      subst hLL
      simp at hr
      simp [sz]
      first | exact ⟨by omega, q⟩ | exact q
/-- the rows -/
theorem rows_loop {ps : Prs} (gd : GoodP ps) (ha : asc ps = ps) {a b : Str} {g : G} {Q : List D → G → Prop}
    (q : Q ((asc (ps.filter fun p => !sLt p.1 a && sLt p.1 b)).map fun p => .tup [.str p.1, p.2.d]) g) :
    lcGo (.nm 2) (tB1 (eChain leD ltD (DL.e2 ixD (eVar 1) (eC (.int 1))) (eVar 2) (DL.e2 ixD (eVar 1) (eC (.int 2))))) (eTup (esCons (eVar 2) (esCons (eDix (eVar 0) (eVar 2)) esNil)))
      [.val (pd ps), .val (.tup [.str "list", .str a, .str b]), .no] ((sortS (ps.map (·.1))).map D.str) [] g Q := by
  have sz := sizeLine_eq
  refine lcGo_w (fun d => match d with | .str k => !sLt k a && sLt k b | _ => true) (fun d => match d with | .str k => .tup [.str k, (lk ps k).d] | _ => .non) (fun d hd => ?_) ?_
  · obtain ⟨k, hk, rfl⟩ := List.mem_map.mp hd
    have hk' := (sortS_perm _).mem_iff.mp hk
    obtain ⟨⟨k2, v⟩, hm, rfl⟩ := List.mem_map.mp hk'
    refine ⟨_, rfl, fun K kk => ?_, fun _ K kk => ?_⟩
    · simp [at1, at2]
      cases h1 : sLt k2 a <;> simp [h1] at kk ⊢ <;> exact kk
    · have kk' : K (.tup [.str k2, (lk ps k2).d]) g := kk
      rw [lk_mem gd.nd hm] at kk'
      simp only [eTup, esCons, esNil, eVar, eDix, List.set_cons_succ, List.set_cons_zero, List.getElem?_cons_succ, List.getElem?_cons_zero]
      show (match getK (((kds ps).map (·.1)).zip ((kds ps).map (·.2))) (.inr k2) with | some d => 2 ≤ sizeLine ∧ K (.tup [.str k2, d]) g | none => False)
      rw [kds_zip, getK_kds, find_mem gd.nd hm]
      exact ⟨by omega, kk'⟩
  · rw [List.filter_map, ← asc_keys, List.filter_map, List.map_map, List.map_map, List.nil_append]
    have e : asc (ps.filter fun p => !sLt p.1 a && sLt p.1 b) = (asc ps).filter fun p => !sLt p.1 a && sLt p.1 b := (asc_filter ps gd.nd _).symm
    rw [e] at q
    have e2 : ((asc ps).filter fun p => !sLt p.1 a && sLt p.1 b).map (fun p => D.tup [.str p.1, p.2.d]) = ((asc ps).filter fun p => !sLt p.1 a && sLt p.1 b).map fun p => D.tup [.str p.1, (lk ps p.1).d] := by
      refine List.map_congr_left fun p hp => ?_
      rw [lk_mem gd.nd ((asc_perm ps).mem_iff.mp (List.mem_filter.mp hp).1)]
    rw [e2] at q
    exact q
def done_in : FSp := fun ds g Q _ => ∃ (ps : Prs) (x : Deed), ds = [pd ps, x.d] ∧ (GoodP ps ∧ asc ps = ps) ∧ x.Ok ∧ Q (.tup [pd (asc (stDeed ps x).1), (stDeed ps x).2.d]) g
theorem done_in_len : ∀ ds g Q E, done_in ds g Q E → ds.length = 2 := by
  rintro ds g Q E ⟨i, _, rfl, _⟩; rfl
theorem done_in_ok : ∀ ds g Q E, done_in ds g Q E → m_done_in lot_deed_in lot_in (endS Q g) (wS E) (startR N_done_in ds) g := by
  rintro ds g Q E ⟨ps, x, rfl, ⟨gd, ha⟩, hx, q⟩
  have sz := sizeLine_eq
  cases x with
  | one l =>
    obtain ⟨w, r, e, h1, h2, h3⟩ := l.word
    have e0 : startR N_done_in [pd ps, (Deed.one l).d] = [.val (pd ps), .val (.tup (.str w :: r)), .no] := by rw [← e]; rfl
    rw [e0]
    simp [m_done_in, at0, sCases_cons, sCases, h1, h2, h3]
    exact ⟨ps, l, by rw [e], ⟨gd, ha⟩, hx, q⟩
  | all ls =>
    have e0 : startR N_done_in [pd ps, (Deed.all ls).d] = [.val (pd ps), .val (.tup [.str "all", .tup (ls.map Lone.d)]), .no] := rfl
    rw [e0]
    simp [m_done_in, at0, at1, sCases_cons]
    exact ⟨ps, ls, rfl, ⟨gd, ha⟩, ⟨hx.1.2, hx.2⟩, q⟩
  | list a b =>
    have e0 : startR N_done_in [pd ps, (Deed.list a b).d] = [.val (pd ps), .val (.tup [.str "list", .str a, .str b]), .no] := rfl
    rw [e0]
    have hl := gd.few
    have l2 : (sortS (ps.map (·.1))).length = ps.length := by rw [(sortS_perm _).length_eq, List.length_map]
    simp [m_done_in, at0, sCases_cons, nLc, sz]
    rw [sorted_pd gd]
    simp
    refine ⟨by omega, rows_loop gd ha ?_⟩
    have l3 : (asc (ps.filter fun p => !sLt p.1 a && sLt p.1 b)).length ≤ 24 := by rw [(asc_perm _).length_eq]; exact (gd.filter _).few
    simp only [stDeed, ← pd_asc ha] at q
    exact q
  | circle ns =>
    have e0 : startR N_done_in [pd ps, (Deed.circle ns).d] = [.val (pd ps), .val (.tup [.str "circle", .tup (ii ns)]), .no] := rfl
    rw [e0]
    simp [m_done_in, at0, at1, sCases_cons, sz]
    simp only [stDeed, ← pd_asc ha] at q
    exact q
end SP

set_option Elab.async false
set_option linter.all false
set_option maxRecDepth 100000
set_option maxHeartbeats 1000000
namespace SP
open PySem PySem.Spec PyProof.Rows L2 DL GEN
theorem stRun_len : ∀ {xs : List Deed} {ps : Prs}, (stRun ps xs).2.length = xs.length
  | [], _ => rfl
  | x :: r, ps => by simp [stRun, stRun_len (xs := r)]
def Deed.read : Deed → Bool
  | .one (.get _) => true
  | .list _ _ => true
  | _ => false
end SP

set_option Elab.async false
set_option linter.all false
set_option maxRecDepth 100000
set_option maxHeartbeats 1000000
namespace SP
open PySem PySem.Spec PyProof.Rows L2 DL GEN
abbrev xS : Exn := ⟨.ref C_InvalidState, []⟩
abbrev xD : Exn := ⟨.ref C_InvalidDeed, []⟩
def require_deed : FSp := fun ds g Q E => ∃ d, ds = [d] ∧ okD d = true ∧ (deedB d = true → Q .non g) ∧ (deedB d = false → E xD g)
theorem require_deed_len : ∀ ds g Q E, require_deed ds g Q E → ds.length = 1 := by
  rintro ds g Q E ⟨i, rfl, _⟩; rfl
theorem require_deed_ok : ∀ ds g Q E, require_deed ds g Q E → m_require_deed is_deed (endS Q g) (wS E) (startR N_require_deed ds) g := by
  rintro ds g Q E ⟨d, rfl, h, hb, q⟩
  simp [m_require_deed]
  refine ⟨d, rfl, h, ?_⟩
  cases hd : deedB d with
  | true => simpa using hb hd
  | false => simpa using q hd
def require_pairs : FSp := fun ds g Q E => ∃ d, ds = [d] ∧ okD d = true ∧ (pairsB d = true → Q .non g) ∧ (pairsB d = false → E xS g)
theorem require_pairs_len : ∀ ds g Q E, require_pairs ds g Q E → ds.length = 1 := by
  rintro ds g Q E ⟨i, rfl, _⟩; rfl
theorem require_pairs_ok : ∀ ds g Q E, require_pairs ds g Q E → m_require_pairs are_pairs (endS Q g) (wS E) (startR N_require_pairs ds) g := by
  rintro ds g Q E ⟨d, rfl, h, hb, q⟩
  simp [m_require_pairs]
  refine ⟨d, rfl, h, ?_⟩
  cases hd : pairsB d with
  | true => simpa using hb hd
  | false => simpa using q hd
def done : FSp := fun ds g Q E => ∃ p d, ds = [p, d] ∧ (okD p = true ∧ okD d = true) ∧ (pairsB p = false → E xS g) ∧ (pairsB p = true → deedB d = false → E xD g) ∧
  (pairsB p = true → deedB d = true → ∃ (ps : Prs) (x : Deed), p = pd ps ∧ d = x.d ∧ GoodP ps ∧ x.Ok ∧ Q (.tup [pd (asc (stDeed ps x).1), (stDeed ps x).2.d]) g)
theorem done_len : ∀ ds g Q E, done ds g Q E → ds.length = 2 := by
  rintro ds g Q E ⟨i, _, rfl, _⟩; rfl
theorem done_ok : ∀ ds g Q E, done ds g Q E → m_done require_pairs require_deed done_in ascending_pairs (endS Q g) (wS E) (startR N_done ds) g := by
  rintro ds g Q E ⟨p, d, rfl, ⟨o1, o2⟩, q1, q2, q3⟩
  simp [m_done]
  refine ⟨_, rfl, o1, fun hp => ?_, fun hp => q1 hp⟩
  simp
  refine ⟨_, rfl, o2, fun hd => ?_, fun hd => q2 hp hd⟩
  obtain ⟨ps, x, rfl, rfl, gd, hx, q⟩ := q3 hp hd
  simp
  refine ⟨ps, rfl, gd, ?_⟩
  simp
  obtain ⟨z1, z2⟩ := stDeed_perm (asc_perm ps) gd.asc hx
  refine ⟨asc ps, x, rfl, ⟨gd.asc, asc_asc gd.nd⟩, hx, ?_⟩
  rw [z2, asc_of_perm (stDeed_good gd hx).nd z1]
  exact q
/-- a row of deeds -/
def rowB : D → Bool
  | .tup ds => ds.all deedB
  | _ => false
def run_deeds : FSp := fun ds g Q E => ∃ p d, ds = [p, d] ∧ (okD p = true ∧ okD d = true) ∧ (∀ es, d = .tup es → es.length ≤ 1000) ∧ (pairsB p = false → E xS g) ∧ (pairsB p = true → rowB d = false → E xD g) ∧
  (pairsB p = true → rowB d = true → ∃ (ps : Prs) (xs : List Deed), p = pd ps ∧ d = .tup (xs.map Deed.d) ∧ GoodP ps ∧ (xs.length ≤ 1000 ∧ ∀ x ∈ xs, x.Ok) ∧ Q (.tup [pd (asc (stRun ps xs).1), .tup ((stRun ps xs).2.map Rp.d)]) g)
theorem run_deeds_len : ∀ ds g Q E, run_deeds ds g Q E → ds.length = 2 := by
  rintro ds g Q E ⟨i, _, rfl, _⟩; rfl
theorem run_deeds_ok : ∀ ds g Q E, run_deeds ds g Q E → m_run_deeds require_pairs ascending_pairs done_in is_deed (endS Q g) (wS E) (startR N_run_deeds ds) g := by
  rintro ds g Q E ⟨p, d, rfl, ⟨o1, o2⟩, hl, q1, q2, q3⟩
  have sz := sizeLine_eq
  have nr := noRef_ok o2
  simp [m_run_deeds]
  refine ⟨_, rfl, o1, fun hp => ?_, fun hp => q1 hp⟩
  cases d <;> simp [okD] at o2 <;> try (simp; exact q2 hp rfl)
  rename_i es
  have hl := hl es rfl
  simp [nLc, sz]
  refine ⟨by omega, lcGo_a (fun d => .bl (deedB d)) (fun d hd => ?_) ?_⟩
  · refine ⟨_, rfl, fun K k => ?_⟩
    simp
    exact ⟨d, rfl, ok_mem o2 hd, k⟩
  rw [blsOf_mapF]
  cases hr : es.all deedB with
  | false =>
    have e : (List.map deedB es).all id = false := by rw [List.all_map]; exact hr
    simp [e]
    have := q2 hp hr
    simp_all
  | true =>
    have e : (List.map deedB es).all id = true := by rw [List.all_map]; exact hr
    obtain ⟨ps, xs, rfl, ed, gd, ⟨h6, hok⟩, q⟩ := q3 hp hr
    cases ed
    have e2 : ∀ x ∈ xs, deedB x.d = true := fun x hx => (hok x hx).b
    rw [Option.map_some, e]
    refine ⟨ps, rfl, gd, ?_⟩
    simp [sz]
    refine forGo_w (fun ds ρ g' => g' = g ∧ ∃ (h : Prs) (as : List Rp) (rest : List Deed) (s4 s5 : Sl), ds = rest.map Deed.d ∧ ρ = [.val (pd ps), .val (.tup (xs.map Deed.d)), .val (pd (asc h)), .acc (as.map Rp.d), s4, s5] ∧
      GoodP h ∧ (as.length + rest.length ≤ 1000 ∧ ∀ x ∈ rest, x.Ok) ∧ (stRun h rest).1 = (stRun ps xs).1 ∧ as ++ (stRun h rest).2 = (stRun ps xs).2) ?_ ?_ ⟨rfl, ps, [], xs, _, _, rfl, rfl, gd, ⟨by simpa using h6, hok⟩, rfl, rfl⟩
    · rintro d ds ρ g' N ⟨rfl, h, as, rest, s4, s5, e, rfl, gh, ⟨hr, hok⟩, e1, e2⟩ nx
      cases rest with
      | nil => cases e
      | cons x rest =>
        cases e
        have hx := hok x (List.mem_cons_self ..)
        obtain ⟨z1, z2⟩ := stDeed_perm (asc_perm h) gh.asc hx
        refine ⟨_, rfl, ?_⟩
        simp
        refine ⟨asc h, x, rfl, ⟨gh.asc, asc_asc gh.nd⟩, hx, ?_⟩
        rw [z2, asc_of_perm (stDeed_good gh hx).nd z1]
        simp at hr
        simp [sz]
        refine ⟨by omega, ?_⟩
        refine nx _ _ ⟨rfl, (stDeed h x).1, as ++ [(stDeed h x).2], rest, .val x.d, .val (stDeed h x).2.d, rfl, ?_, stDeed_good gh hx, ⟨by simp; omega, fun y hy => hok y (List.mem_cons_of_mem _ hy)⟩, by rw [← e1]; rfl, by rw [← e2]; simp [stRun]⟩
        simp
    · rintro ρ g' ⟨rfl, h, as, rest, s4, s5, e, rfl, gh, ⟨hr, hok⟩, e1, e2⟩
      cases rest with
      | cons x rest => cases e
      | nil =>
        simp [stRun] at e1 e2
        rw [← e1, ← e2] at q
        simp at hr
        simp [sz]
        first | exact ⟨by omega, q⟩ | exact q
/-- the next two are asked of bad deeds alone here -/
def is_read : FSp := fun ds g Q E => ∃ d, ds = [d] ∧ okD d = true ∧ deedB d = false ∧ E xD g
theorem is_read_len : ∀ ds g Q E, is_read ds g Q E → ds.length = 1 := by
  rintro ds g Q E ⟨i, rfl, _⟩; rfl
theorem is_read_ok : ∀ ds g Q E, is_read ds g Q E → m_is_read require_deed (endS Q g) (wS E) (startR N_is_read ds) g := by
  rintro ds g Q E ⟨d, rfl, h, hb, q⟩
  simp [m_is_read]
  exact ⟨_, rfl, h, fun z => by (rw [hb] at z; cases z), fun _ => q⟩
def keys_of : FSp := fun ds g Q E => ∃ d, ds = [d] ∧ okD d = true ∧ deedB d = false ∧ E xD g
theorem keys_of_len : ∀ ds g Q E, keys_of ds g Q E → ds.length = 1 := by
  rintro ds g Q E ⟨i, rfl, _⟩; rfl
theorem keys_of_ok : ∀ ds g Q E, keys_of ds g Q E → m_keys_of require_deed (endS Q g) (wS E) (startR N_keys_of ds) g := by
  rintro ds g Q E ⟨d, rfl, h, hb, q⟩
  simp [m_keys_of]
  exact ⟨_, rfl, h, fun z => by (rw [hb] at z; cases z), fun _ => q⟩
end SP

set_option Elab.async false
set_option linter.all false
set_option maxRecDepth 100000
set_option maxHeartbeats 1000000
namespace SP
open PySem PySem.Spec PyProof.Rows L2 DL GEN
section
variable {n n' : SM} {m : EM D} {ms : EM (List D)} {DD : SE} {W : Wi} {ρ : Rho} {g : G} {i : Nat} {ds : List D} {d : D}
theorem seq_sx (P : D → Prop) (hm : ∀ Q E, (∀ d, P d → Q d g) → m ρ g Q E) (h : ∀ d, P d → n' DD W (ρ.set i (.val d)) g) : sSeq (sSet i m) n' DD W ρ g := hm _ _ h
theorem seq_app (h6 : ρ[i]? = some (.acc ds)) (hz : ds.length ≤ 1000) (hm : ∀ Q E, Q d g → m ρ g Q E) (h : n' DD W (ρ.set i (.acc (ds ++ [d]))) g) : sSeq (sApp i (xV m)) n' DD W ρ g := by
  refine ⟨⟨_, h6⟩, hm _ _ ?_⟩
  dsimp only
  rw [h6]
  exact ⟨by rw [sizeLine_eq]; omega, h⟩
theorem seq_accN (hm : ∀ Q E, Q ds g → ms ρ g Q E) (h : n' DD W (ρ.set i (.acc ds)) g) : sSeq (sSetN i ms) n' DD W ρ g := hm _ _ h
end
/-- the tables that are told -/
def TG (g : G) : Prop := ∀ p ∈ TABS, g p.1 = some (.tab p.2)
theorem tg0 : TG (gTab TABS) := by
  intro p hp
  simp only [TABS, List.mem_cons, List.not_mem_nil, or_false] at hp
  rcases hp with rfl | rfl <;> rfl
theorem TG.gset {g : G} (h : TG g) {a : Addr} {o : DL.O} (n : g a = none) : TG (DL.gset g a o) := by
  intro p hp
  have e := h p hp
  have : p.1 ≠ a := fun z => by rw [z, n] at e; cases e
  unfold DL.gset
  rw [if_neg this]
  exact e
abbrev dFine : D := .tup [.str "fine", .str ""]
abbrev dState : D := .tup [.str "refused", .str "state"]
abbrev dDeed : D := .tup [.str "refused", .str "deed"]
theorem met_w {P : Addr} {q : Str} {ρ : Rho} {g : G} {Q : D → G → Prop} {E : Exn → G → Prop} {mb : EM D} (hP : g P = some (.tab q))
    (h : ∀ (Qn : D → G → Prop) (Ex : Exn → G → Prop), (∀ v g1, Q dFine g1 → Qn v g1) → (∀ g1, Q dState g1 → Ex xS g1) → (∀ g1, Q dDeed g1 → Ex xD g1) → mb (fgt ρ) g Qn Ex) :
    eLam P q N__law_met SX l__law_met mr__law_met mb ρ g Q E := by
  have sz := sizeLine_eq
  refine ⟨hP, fun f0 => ⟨rfl, h _ _ (fun v g1 k => ?_) (fun g1 k => ?_) (fun g1 k => ?_)⟩⟩
  · simp [mr__law_met, sz]
    exact k
  · refine ⟨C_InvalidState, true, rfl, rfl, fun _ => ?_, fun z => nomatch z⟩
    simp [sz]
    exact k
  · refine ⟨C_InvalidDeed, false, rfl, rfl, (fun z => nomatch z), fun _ => ⟨C_InvalidDeed, true, rfl, rfl, fun _ => ?_, fun z => nomatch z⟩⟩
    simp [sz]
    exact k
theorem pairsOf_pr : ∀ ps : Prs, DL.pairsOf (ps.map fun p => D.tup [.str p.1, p.2.d]) = some (kds ps)
  | [] => rfl
  | p :: ps => by
    have ih := pairsOf_pr ps
    show (match DL.pairOf (.tup [.str p.1, p.2.d]), DL.pairsOf (ps.map fun p => D.tup [.str p.1, p.2.d]) with | some p, some r => some (p :: r) | _, _ => none) = some (kds (p :: ps))
    rw [ih]
    rfl
theorem kds_nd {ps : Prs} (nd : (ps.map (·.1)).Nodup) : mergeD [] (kds ps) = kds ps := by
  rw [mergeD_nd (by rw [kds_keys]; simpa using nd_inr nd)]; rfl
theorem k_len (c : Nat) : Str.length (("k" : Str) ++ ⟨#[c]⟩) = 2 := by
  rfl
def P25 : Prs := (["ka", "kb", "kc", "kd", "ke", "kf", "kg", "kh", "ki", "kj", "kk", "kl", "km", "kn", "ko", "kp", "kq", "kr", "ks", "kt", "ku", "kv", "kw", "kx", "ky"] : List Str).map fun k => (k, .int 1)
def WR : List D := [.non, .int 5, .tup [], .lst [.tup [.str "a", .int 1]], .dic [.inr "A"] [.int 1], .dic [.inr ""] [.int 1], .dic [.inr "a"] [.non], .dic [.inr "a"] [.bl true], .dic [.inr "a"] [.int 1000000000000], .dic [.inr "a"] [.str "A"], .dic [.inl 1] [.int 1], .dic [.inr "a"] [.tup [.int 1]], .str "pairs", .bl true]
def W2 : List D := WR ++ [pd P25, .dic [.inr "abcdefghi"] [.int 1]]
def SM : List D := [.non, .int 3, .str "get", .tup [.str "get"], .tup [.str "get", .str "A"], .lst [.str "get", .str "a"], .tup [.str "put", .str "a"], .tup [.str "put", .str "a", .non], .tup [.str "swap", .str "a", .int 1], .tup [.str "all", .tup []], .tup [.str "circle", .tup [.int 1, .int 0]], .dic [] []]
def SM5 : List D := [.tup [.str "list", .str "a"], .tup [.str "add", .str "a", .str "x"], .tup [.str "GET", .str "a"], .tup [.bl true, .str "a"], .tup [.str "put", .str "a", .int 1000000000000000000000000000000000000000000000000000000000000]]
def SM2 : List D := SM ++ SM5
def badP (p : D) : Bool := okD p && !pairsB p && !deedB p
def badD (p : D) : Bool := okD p && !deedB p
theorem w2_bad : ∀ p ∈ W2, badP p = true := by
  have : W2.all badP = true := by decide +kernel
  exact List.all_eq_true.mp this
theorem sm2_bad : ∀ p ∈ SM2, badD p = true := by
  have : SM2.all badD = true := by decide +kernel
  exact List.all_eq_true.mp this
theorem ne_self {x : D} (h : pok x = true) (h2 : dep deepest x = true) : neD2 x x = some (.bl false) := by
  rw [neD2_of (by simp [eqOk, h, h2]), eqv_py x h]; rfl
theorem eq_self {x : D} (h : pok x = true) (h2 : dep deepest x = true) : eqD2 x x = some (.bl true) := by
  rw [eqD2_of (by simp [eqOk, h, h2]), eqv_py x h]
def RW (d : D) : List D := [.non, .tup [.str "get", .str "a"], .lst [.tup [.str "get", .str "a"]], .tup [d], .tup [.tup [.str "get", .str "a"], d], .dic [] [], .str "row", .int 7]
def badR (r : D) : Prop := okD r = true ∧ rowB r = false ∧ ∀ es, r = .tup es → es.length ≤ 1000
theorem rw_bad {d : D} (hd : badD d = true) : ∀ r ∈ RW d, badR r := by
  simp only [badD, Bool.and_eq_true, Bool.not_eq_true'] at hd
  have o1 : okD (.tup [.str "get", .str "a"]) = true := by decide +kernel
  have b1 : deedB (.tup [.str "get", .str "a"]) = true := by decide +kernel
  intro r hr
  simp only [RW, List.mem_cons, List.not_mem_nil, or_false] at hr
  rcases hr with rfl | rfl | rfl | rfl | rfl | rfl | rfl | rfl
  · exact ⟨rfl, rfl, fun _ z => by cases z⟩
  · exact ⟨o1, rfl, fun _ z => by cases z; simp⟩
  · exact ⟨by rw [okD, okL, o1]; rfl, rfl, fun _ z => by cases z⟩
  · exact ⟨by simp [okD, okL, hd.1], by simp [rowB, hd.2], fun _ z => by cases z; simp⟩
  · exact ⟨by rw [okD, okL, o1]; simp [okL, hd.1], by simp [rowB, hd.2], fun _ z => by cases z; simp⟩
  · exact ⟨rfl, rfl, fun _ z => by cases z⟩
  · exact ⟨by decide +kernel, rfl, fun _ z => by cases z⟩
  · exact ⟨rfl, rfl, fun _ z => by cases z⟩
section
variable {p d : D} {g : G} {Q : D → G → Prop} {E : Exn → G → Prop}
theorem no_t {b : Bool} {α : Prop} (h : b = false) : b = true → α := fun z => by rw [h] at z; cases z
theorem no_f {b : Bool} {α : Prop} (h : b = true) : b = false → α := fun z => by rw [h] at z; cases z
theorem done_b1 (op : okD p = true) (hp : pairsB p = false) (od : okD d = true) (q : E xS g) : done [p, d] g Q E := ⟨p, d, rfl, ⟨op, od⟩, fun _ => q, no_t hp, no_t hp⟩
theorem done_b2 (op : okD p = true) (hp : pairsB p = true) (od : okD d = true) (hd : deedB d = false) (q : E xD g) : done [p, d] g Q E := ⟨p, d, rfl, ⟨op, od⟩, no_f hp, fun _ _ => q, fun _ => no_t hd⟩
theorem run_b1 (op : okD p = true) (hp : pairsB p = false) (hd : badR d) (q : E xS g) : run_deeds [p, d] g Q E := ⟨p, d, rfl, ⟨op, hd.1⟩, hd.2.2, fun _ => q, no_t hp, no_t hp⟩
theorem run_b2 (op : okD p = true) (hp : pairsB p = true) (hd : badR d) (q : E xD g) : run_deeds [p, d] g Q E := ⟨p, d, rfl, ⟨op, hd.1⟩, hd.2.2, no_f hp, fun _ _ => q, fun _ => no_t hd.2.1⟩
end
theorem cat_w {i : Nat} {ρ : Rho} {g : G} {Q : D → G → Prop} {E : Exn → G → Prop} {ms : EM (List D)} {ds es : List D} (h : ρ[i]? = some (.val (.lst ds))) (hm : ∀ Q E, Q es g → ms ρ g Q E) (n : ds.length + es.length ≤ 1000) (q : Q (.lst (ds ++ es)) g) :
    (e2 addD (eVar i) (eFz (nLst ms))) ρ g Q E := by
  have sz := sizeLine_eq
  simp only [DL.e2, eVar, h, eFz, nLst]
  refine hm _ _ ⟨by omega, ?_⟩
  simp only [addD]
  rw [if_pos (by omega)]
  exact q
theorem call_pick {a : Addr} {xs : List D} {ρ : Rho} {g : G} {m : EM D} {Q : D → G → Prop} {E : Exn → G → Prop} (hm : ∀ Q E, Q (.lst xs) g → m ρ g Q E) (h0 : ρ[0]? = some (.val (.ref a))) (h : g a = some .dice) (hs : xs ≠ [] ∧ xs.length ≤ 1000)
    (q : ∀ x ∈ xs, Q x g) : eCall pick (esCons (eVar 0) (esCons m esNil)) ρ g Q E := by
  simp only [eCall, esCons, esNil, eVar, h0]
  refine hm _ _ ?_
  exact ⟨a, _, xs, rfl, .inl rfl, h, ⟨hs.1, by omega⟩, q⟩
def right : FSp := fun ds g Q _ => ∃ a : Addr, ds = [.ref a] ∧ g a = some .dice ∧ TG g ∧ Q (.bl true) g
theorem right_len : ∀ ds g Q E, right ds g Q E → ds.length = 1 := by
  rintro ds g Q E ⟨i, rfl, _⟩; rfl
def ANS : List D := [dState, dState, dDeed, dState, dDeed, dDeed, dDeed]
theorem ans_eq : eqD2 (.lst ANS) (.lst ANS) = some (.bl true) := eq_self rfl rfl
def m_tail : DL.SM :=
  (sSeq (sSetN 6 (nLst (esCons (eLam P__law_right "_law_right.<locals>.<lambda>" N__law_met SX l__law_met mr__law_met (eCall done (esCons (eVar 2) (esCons (eVar 4) esNil)))) esNil)))
    (sSeq (sApp 6 (xV (eLam P__law_right "_law_right.<locals>.<lambda>" N__law_met SX l__law_met mr__law_met (eCall done (esCons (eVar 2) (esCons (eTup (esCons (eC (.str "get")) (esCons (eC (.str "a")) esNil))) esNil))))))
    (sSeq (sApp 6 (xV (eLam P__law_right "_law_right.<locals>.<lambda>" N__law_met SX l__law_met mr__law_met (eCall done (esCons (eDisp (pCons (eC (.str "a")) (eC (.int 1)) pNil)) (esCons (eVar 4) esNil))))))
    (sSeq (sApp 6 (xV (eLam P__law_right "_law_right.<locals>.<lambda>" N__law_met SX l__law_met mr__law_met (eCall run_deeds (esCons (eVar 2) (esCons (eVar 5) esNil))))))
    (sSeq (sApp 6 (xV (eLam P__law_right "_law_right.<locals>.<lambda>" N__law_met SX l__law_met mr__law_met (eCall run_deeds (esCons (eC (.dic [] [])) (esCons (eVar 5) esNil))))))
    (sSeq (sApp 6 (xV (eLam P__law_right "_law_right.<locals>.<lambda>" N__law_met SX l__law_met mr__law_met (eCall is_read (esCons (eVar 4) esNil)))))
    (sSeq (sApp 6 (xV (eLam P__law_right "_law_right.<locals>.<lambda>" N__law_met SX l__law_met mr__law_met (eCall keys_of (esCons (eVar 4) esNil)))))
    (sSeq (sSet 7 (eFz (nLst (esCons (eC (.str "state")) (esCons (eC (.str "state")) (esCons (eC (.str "deed")) (esCons (eC (.str "state")) (esCons (eC (.str "deed")) (esCons (eC (.str "deed")) (esCons (eC (.str "deed")) esNil))))))))))
    (sRet (eAnd (e2 eqD2 (eVar 6) (eFz (nLc (iSeq (eVar 7)) (.nm 9) tTrue (eTup (esCons (eC (.str "refused")) (esCons (eVar 9) esNil))) [9]))) (eAnd (e2 isB (eCall is_deed (esCons (eVar 4) esNil)) (eC (.bl false))) (e2 isB (eCall is_deed (esCons (eVar 2) esNil)) (eC (.bl false))))))))))))))
theorem tail_ok {a : Addr} {p d r : D} {g : G} {Q : D → G → Prop} {E : Exn → G → Prop} (tg : TG g) (hp : badP p = true) (hd : badD d = true) (hr : badR r) (q : Q (.bl true) g) :
    m_tail (endS Q g) (wS E) [.val (.ref a), .val (.lst WR), .val p, .val (.lst SM), .val d, .val r, .no, .no, .no, .no] g := by
  have sz := sizeLine_eq
  have hP : g P__law_right = some (.tab "_law_right.<locals>.<lambda>") := tg _ (List.mem_cons_of_mem _ List.mem_cons_self)
  unfold m_tail
  simp only [badP, badD, Bool.and_eq_true, Bool.not_eq_true'] at hp hd
  obtain ⟨⟨op, pp⟩, dp⟩ := hp
  obtain ⟨od, dd⟩ := hd
  have og : okD (.tup [.str "get", .str "a"]) = true := by decide +kernel
  refine seq_accN (ds := [dState]) (fun Q E k => ?_) ?_
  · simp only [nLst, esCons, esNil]
    refine met_w hP fun Qn Ex q1 q2 q3 => ?_
    simp [fgt]
    exact done_b1 op pp od (q2 g ⟨by simp [sz], k⟩)
  refine seq_app (ds := [dState]) (d := dState) rfl (by simp) (fun Q E k => met_w hP fun Qn Ex q1 q2 q3 => ?_) ?_
  · simp [fgt, sz]
    exact done_b1 op pp og (q2 g k)
  refine seq_app (ds := [dState, dState]) (d := dDeed) rfl (by simp) (fun Q E k => met_w hP fun Qn Ex q1 q2 q3 => ?_) ?_
  · simp [fgt, keyed]
    exact done_b2 (by decide +kernel) (by decide +kernel) od dd (q3 g k)
  refine seq_app (ds := [dState, dState, dDeed]) (d := dState) rfl (by simp) (fun Q E k => met_w hP fun Qn Ex q1 q2 q3 => ?_) ?_
  · simp [fgt]
    exact run_b1 op pp hr (q2 g k)
  refine seq_app (ds := [dState, dState, dDeed, dState]) (d := dDeed) rfl (by simp) (fun Q E k => met_w hP fun Qn Ex q1 q2 q3 => ?_) ?_
  · simp [fgt]
    exact run_b2 rfl rfl hr (q3 g k)
  refine seq_app (ds := [dState, dState, dDeed, dState, dDeed]) (d := dDeed) rfl (by simp) (fun Q E k => met_w hP fun Qn Ex q1 q2 q3 => ?_) ?_
  · simp [fgt]
    exact ⟨d, rfl, od, dd, q3 g k⟩
  refine seq_app (ds := [dState, dState, dDeed, dState, dDeed, dDeed]) (d := dDeed) rfl (by simp) (fun Q E k => met_w hP fun Qn Ex q1 q2 q3 => ?_) ?_
  · simp [fgt]
    exact ⟨d, rfl, od, dd, q3 g k⟩
  refine seq_s (d := .lst [.str "state", .str "state", .str "deed", .str "state", .str "deed", .str "deed", .str "deed"]) (fun Q E k => ?_) ?_
  · simp [sz]
    exact k
  have n1 := ans_eq
  unfold ANS at n1
  simp [nLc, sz, lcGo, n1]
  refine ⟨d, rfl, od, ?_⟩
  simp [dd]
  refine ⟨p, rfl, op, ?_⟩
  simp [dp]
  exact q
theorem right_ok : ∀ ds g Q E, right ds g Q E → m__law_right pick is_deed done run_deeds is_read keys_of (endS Q g) (wS E) (startR N__law_right ds) g := by
  rintro ds g Q E ⟨a, rfl, h, tg, q⟩
  have sz := sizeLine_eq
  have e0 : startR N__law_right [.ref a] = [.val (.ref a), .no, .no, .no, .no, .no, .no, .no, .no, .no] := rfl
  rw [e0]
  unfold m__law_right
  refine seq_s (d := .lst WR) (fun Q E k => ?_) ?_
  · simp [sz, keyed]
    exact k
  refine seq_sx (fun p => badP p = true) (fun Q E k => ?_) ?_
  · simp [nLc, sz]
    refine ⟨by decide, lcGo_a (fun d => match d with | .str z => .tup [.str (("k" : Str) ++ z), .int 1] | _ => .non) (fun d hd => ?_) ?_⟩
    · obtain ⟨c, hc, rfl⟩ := List.mem_map.mp hd
      refine ⟨_, rfl, fun K k => ?_⟩
      simp [k_len, sz]
      exact k
    · have e1 : ((("abcdefghijklmnopqrstuvwxy" : Str).cps.toList.map fun c => D.str ⟨#[c]⟩).map fun d => match d with | .str z => D.tup [.str (("k" : Str) ++ z), .int 1] | _ => .non) = P25.map fun p => D.tup [.str p.1, p.2.d] := rfl
      rw [e1]
      simp only [dictD2, pairsOf_pr, Option.map_some]
      rw [kds_nd (by decide +kernel)]
      simp [sz, keyed]
      rw [if_pos (by decide)]
      refine ⟨a, _, W2, rfl, .inl rfl, h, ⟨by simp [W2], by decide +kernel⟩, fun x hx => k x (w2_bad x hx)⟩
  intro p hp
  refine seq_s (d := .lst SM) (fun Q E k => ?_) ?_
  · simp [sz]
    exact k
  refine seq_sx (fun d => badD d = true) (fun Q E k => ?_) ?_
  · refine call_pick (xs := SM2) (fun Q E k => ?_) rfl h ⟨by simp [SM2, SM], by decide⟩ fun x hx => k x (sm2_bad x hx)
    refine cat_w (ds := SM) rfl (fun Q E k => ?_) (es := SM5) (by decide) k
    simp [sz]
    exact k
  intro d hd
  refine seq_sx badR (fun Q E k => ?_) ?_
  · simp [sz]
    refine ⟨a, _, RW d, rfl, .inl rfl, h, ⟨by simp [RW], by simp [RW]⟩, fun x hx => k x (rw_bad hd x hx)⟩
  intro r hr
  exact tail_ok tg hp hd hr q
end SP

set_option Elab.async false
set_option linter.all false
set_option maxRecDepth 100000
set_option maxHeartbeats 1000000
namespace SP
open PySem PySem.Spec PyProof.Rows L2 DL GEN
def FULL : Prs := (["ka", "kb", "kc", "kd", "ke", "kf", "kg", "kh", "ki", "kj", "kk", "kl", "km", "kn", "ko", "kp", "kq", "kr", "ks", "kt", "ku", "kv", "kw", "kx"] : List Str).map fun k => (k, .int 1)
theorem full_good : GoodP FULL := ⟨by decide +kernel, by decide +kernel, by decide +kernel, by decide +kernel⟩
def FOUR : Prs := [("a", .int 999999999999), ("abcdefgh", .str "zzzzzzzzzzzz"), ("b", .int (-999999999999)), ("c", .str "")]
theorem four_good : GoodP FOUR := ⟨by decide +kernel, by decide +kernel, by decide +kernel, by decide +kernel⟩
theorem nil_good : GoodP [] := ⟨by decide +kernel, by decide +kernel, by decide +kernel, by decide +kernel⟩
theorem fine_eq : eqD2 (.lst [dFine, dFine, dFine]) (.lst [dFine, dFine, dFine]) = some (.bl true) := eq_self rfl rfl
theorem done_g {ps : Prs} {x : Deed} {g : G} {Q : D → G → Prop} {E : Exn → G → Prop} (gd : GoodP ps) (hx : x.Ok) (q : ∀ v, Q v g) : done [pd ps, x.d] g Q E :=
  ⟨_, _, rfl, ⟨gd.ok, hx.ok⟩, no_f gd.pairs, fun _ => no_f hx.b, fun _ _ => ⟨ps, x, rfl, rfl, gd, hx, q _⟩⟩
theorem run_g {ps : Prs} {g : G} {Q : D → G → Prop} {E : Exn → G → Prop} (gd : GoodP ps) (q : ∀ v, Q v g) : run_deeds [pd ps, .tup []] g Q E :=
  ⟨_, _, rfl, ⟨gd.ok, rfl⟩, (fun es z => by cases z; simp), no_f gd.pairs, (fun _ => no_f rfl), fun _ _ => ⟨ps, [], rfl, rfl, gd, ⟨by simp, fun _ z => by cases z⟩, q _⟩⟩
def law : FSp := fun ds g Q _ => ∃ ns : List Int, ds = [.lst (ii ns)] ∧ ns.length ≤ 63 ∧ TG g ∧ ∀ g', Q (.bl true) g'
theorem law_len : ∀ ds g Q E, law ds g Q E → ds.length = 1 := by
  rintro ds g Q E ⟨i, rfl, _⟩; rfl
theorem law_ok : ∀ ds g Q E, law ds g Q E → m_law dice right done run_deeds (endS Q g) (wS E) (startR N_law ds) g := by
  rintro ds g Q E ⟨ns, rfl, hl, tg, q⟩
  have sz := sizeLine_eq
  have e0 : startR N_law [.lst (ii ns)] = [.val (.lst (ii ns)), .no, .no, .no, .no, .no] := rfl
  rw [e0]
  unfold m_law
  obtain ⟨m, hm⟩ : ∃ m : Nat, (if 1 < if (ns.length : Int) < 4 then (ns.length : Int) else 4 then if (ns.length : Int) < 4 then (ns.length : Int) else 4 else 1).toNat = m := ⟨_, rfl⟩
  refine seq_for (ds := rngD 0 m) (fun Q E q => ?_) ?_
  · simp
    rw [hm]
    exact q
  refine forGo_w (fun ds ρ g' => ∃ (hs : List Int) (s1 s2 : Sl), ds = ii hs ∧ (∀ x ∈ hs, 0 ≤ x) ∧ TG g' ∧ ρ = [.val (.lst (ii ns)), s1, s2, .no, .no, .no]) ?_ ?_ ⟨_, _, _, rngD_ii _ _, fun x hx => ?_, tg, rfl⟩
  · rintro d ds ρ g' N ⟨hs, s1, s2, e, sub, tg', rfl⟩ nx
    cases hs with
    | nil => cases e
    | cons hh hs =>
      cases e
      refine ⟨_, rfl, ?_⟩
      simp
      refine ⟨ns, hh, rfl, sub hh (List.mem_cons_self ..), fun a ha => ?_⟩
      simp
      have tg2 := tg'.gset (o := .dice) ha
      refine ⟨a, rfl, gset_same, tg2, ?_⟩
      simp
      refine ⟨a, rfl, gset_same, tg2, ?_⟩
      simp
      exact nx _ _ ⟨hs, _, _, rfl, fun y hy => sub y (List.mem_cons_of_mem _ hy), tg2, rfl⟩
  · rintro ρ g' ⟨hs, s1, s2, e, sub, tg', rfl⟩
    dsimp only
    have hP : g' P_law = some (.tab "law.<locals>.<lambda>") := tg' _ List.mem_cons_self
    refine seq_s (d := pd FULL) (fun Q E q => ?_) ?_
    · simp [nLc, sz]
      refine ⟨by decide, lcGo_a (fun d => match d with | .str z => .tup [.str (("k" : Str) ++ z), .int 1] | _ => .non) (fun d hd => ?_) ?_⟩
      · obtain ⟨c, hc, rfl⟩ := List.mem_map.mp hd
        refine ⟨_, rfl, fun K k => ?_⟩
        simp [k_len, sz]
        exact k
      · have e1 : ((("abcdefghijklmnopqrstuvwx" : Str).cps.toList.map fun c => D.str ⟨#[c]⟩).map fun d => match d with | .str z => D.tup [.str (("k" : Str) ++ z), .int 1] | _ => .non) = FULL.map fun p => D.tup [.str p.1, p.2.d] := rfl
        rw [e1]
        simp only [dictD2, pairsOf_pr, Option.map_some]
        rw [kds_nd full_good.nd]
        exact q
    refine seq_accN (ds := [dFine]) (fun Q E k => ?_) ?_
    · simp only [nLst, esCons, esNil]
      refine met_w hP fun Qn Ex q1 q2 q3 => ?_
      simp [fgt, sz]
      exact done_g (x := .one (.get "a")) full_good (show keyB _ = true by decide +kernel) fun v => q1 v g' ⟨by simp [sz], k⟩
    refine seq_app (ds := [dFine]) (d := dFine) rfl (by simp) (fun Q E k => met_w hP fun Qn Ex q1 q2 q3 => ?_) ?_
    · have e4 : mkDic (mergeD [] (kds FOUR)) = pd FOUR := by rw [kds_nd four_good.nd]
      simp [fgt, sz, keyed]
      rw [if_pos (by decide)]
      show done [mkDic (mergeD [] (kds FOUR)), _] _ _ _
      rw [e4]
      exact done_g (ps := FOUR) (x := .one (.drop "a")) four_good (show keyB _ = true by decide +kernel) fun v => q1 v g' k
    refine seq_app (ds := [dFine, dFine]) (d := dFine) rfl (by simp) (fun Q E k => met_w hP fun Qn Ex q1 q2 q3 => ?_) ?_
    · simp [fgt, sz]
      exact run_g nil_good fun v => q1 v g' k
    have n1 := fine_eq
    simp [sz, n1]
    exact q _
  · obtain ⟨j, hj, rfl⟩ := List.mem_map.mp hx
    omega
end SP

set_option Elab.async false
set_option linter.all false
set_option maxRecDepth 100000
set_option maxHeartbeats 4000000
namespace ALL
open PySem PySem.Spec PyProof.Rows L2 DL GEN
section
variable {P : Program} {w : World} {K : PySem.W.Frag} {mg : Str → Option Value} {base : Heap}
theorem def__law_dice (T : Tx K mg)  {f : Addr} {fd : FuncData} (F : Fun K "_law_dice" "_law_dice" s__law_dice f fd) (hm : mg "_law_dice" = some (.ref f)) (hb : Binds K fd ["_law_script", "_law_spot"] []) : Def P w K mg base "_law_dice" 1 SP.dice :=
  def_ok F sc__law_dice hm hb SP.dice_len fun cdv A outer s H E hr => ⟨_, der__law_dice T  hr, SP.dice_ok⟩
theorem def__law_roll (T : Tx K mg)  {f : Addr} {fd : FuncData} (F : Fun K "_law_roll" "_law_roll" s__law_roll f fd) (hm : mg "_law_roll" = some (.ref f)) (hb : Binds K fd ["_law_dice_here", "_law_most"] []) : Def P w K mg base "_law_roll" 1 SP.roll :=
  def_ok F sc__law_roll hm hb SP.roll_len fun cdv A outer s H E hr => ⟨_, der__law_roll T  hr, SP.roll_ok⟩
theorem def__law_pick (T : Tx K mg) (D__law_roll : Def P w K mg base "_law_roll" 1 SP.roll) {f : Addr} {fd : FuncData} (F : Fun K "_law_pick" "_law_pick" s__law_pick f fd) (hm : mg "_law_pick" = some (.ref f)) (hb : Binds K fd ["_law_dice_here", "_law_items"] []) : Def P w K mg base "_law_pick" 2 SP.pick :=
  def_ok F sc__law_pick hm hb SP.pick_len fun cdv A outer s H E hr => ⟨_, der__law_pick T D__law_roll hr, SP.pick_ok⟩
theorem def_has_word (T : Tx K mg)  {f : Addr} {fd : FuncData} (F : Fun K "has_word" "has_word" s_has_word f fd) (hm : mg "has_word" = some (.ref f)) (hb : Binds K fd ["value", "words"] []) : Def P w K mg base "has_word" 1 SP.has_word :=
  def_ok F sc_has_word hm hb SP.has_word_len fun cdv A outer s H E hr => ⟨_, der_has_word T  hr, SP.has_word_ok⟩
theorem def_has_signs (T : Tx K mg)  {f : Addr} {fd : FuncData} (F : Fun K "has_signs" "has_signs" s_has_signs f fd) (hm : mg "has_signs" = some (.ref f)) (hb : Binds K fd ["value", "signs", "most"] []) : Def P w K mg base "has_signs" 1 SP.has_signs :=
  def_ok F sc_has_signs hm hb SP.has_signs_len fun cdv A outer s H E hr => ⟨_, der_has_signs T  hr, SP.has_signs_ok⟩
theorem def_is_key (T : Tx K mg) (D_has_signs : Def P w K mg base "has_signs" 1 SP.has_signs) {f : Addr} {fd : FuncData} (F : Fun K "is_key" "is_key" s_is_key f fd) (hm : mg "is_key" = some (.ref f)) (hb : Binds K fd ["value"] []) : Def P w K mg base "is_key" 2 SP.is_key :=
  def_ok F sc_is_key hm hb SP.is_key_len fun cdv A outer s H E hr => ⟨_, der_is_key T D_has_signs hr, SP.is_key_ok⟩
theorem def_is_integer (T : Tx K mg)  {f : Addr} {fd : FuncData} (F : Fun K "is_integer" "is_integer" s_is_integer f fd) (hm : mg "is_integer" = some (.ref f)) (hb : Binds K fd ["value"] []) : Def P w K mg base "is_integer" 1 SP.is_integer :=
  def_ok F sc_is_integer hm hb SP.is_integer_len fun cdv A outer s H E hr => ⟨_, der_is_integer T  hr, SP.is_integer_ok⟩
theorem def_is_from (T : Tx K mg) (D_is_integer : Def P w K mg base "is_integer" 1 SP.is_integer) {f : Addr} {fd : FuncData} (F : Fun K "is_from" "is_from" s_is_from f fd) (hm : mg "is_from" = some (.ref f)) (hb : Binds K fd ["value", "least", "most"] []) : Def P w K mg base "is_from" 2 SP.is_from :=
  def_ok F sc_is_from hm hb SP.is_from_len fun cdv A outer s H E hr => ⟨_, der_is_from T D_is_integer hr, SP.is_from_ok⟩
theorem def_is_value (T : Tx K mg) (D_is_from : Def P w K mg base "is_from" 2 SP.is_from) (D_has_signs : Def P w K mg base "has_signs" 1 SP.has_signs) {f : Addr} {fd : FuncData} (F : Fun K "is_value" "is_value" s_is_value f fd) (hm : mg "is_value" = some (.ref f)) (hb : Binds K fd ["value"] []) : Def P w K mg base "is_value" 3 SP.is_value :=
  def_ok F sc_is_value hm hb SP.is_value_len fun cdv A outer s H E hr => ⟨_, der_is_value T D_is_from D_has_signs hr, SP.is_value_ok⟩
theorem def_is_whole (T : Tx K mg)  {f : Addr} {fd : FuncData} (F : Fun K "is_whole" "is_whole" s_is_whole f fd) (hm : mg "is_whole" = some (.ref f)) (hb : Binds K fd ["value"] []) : Def P w K mg base "is_whole" 1 SP.is_whole :=
  def_ok F sc_is_whole hm hb SP.is_whole_len fun cdv A outer s H E hr => ⟨_, der_is_whole T  hr, SP.is_whole_ok⟩
theorem def_is_addend (T : Tx K mg) (D_is_whole : Def P w K mg base "is_whole" 1 SP.is_whole) {f : Addr} {fd : FuncData} (F : Fun K "is_addend" "is_addend" s_is_addend f fd) (hm : mg "is_addend" = some (.ref f)) (hb : Binds K fd ["value"] []) : Def P w K mg base "is_addend" 2 SP.is_addend :=
  def_ok F sc_is_addend hm hb SP.is_addend_len fun cdv A outer s H E hr => ⟨_, der_is_addend T D_is_whole hr, SP.is_addend_ok⟩
theorem def_is_value_or_none (T : Tx K mg) (D_is_value : Def P w K mg base "is_value" 3 SP.is_value) {f : Addr} {fd : FuncData} (F : Fun K "is_value_or_none" "is_value_or_none" s_is_value_or_none f fd) (hm : mg "is_value_or_none" = some (.ref f)) (hb : Binds K fd ["value"] []) : Def P w K mg base "is_value_or_none" 4 SP.is_value_or_none :=
  def_ok F sc_is_value_or_none hm hb SP.is_value_or_none_len fun cdv A outer s H E hr => ⟨_, der_is_value_or_none T D_is_value hr, SP.is_value_or_none_ok⟩
theorem def_is_lot_deed (T : Tx K mg) (D_has_word : Def P w K mg base "has_word" 1 SP.has_word) (D_is_key : Def P w K mg base "is_key" 2 SP.is_key) (D_is_value : Def P w K mg base "is_value" 3 SP.is_value) (D_is_addend : Def P w K mg base "is_addend" 2 SP.is_addend) (D_is_value_or_none : Def P w K mg base "is_value_or_none" 4 SP.is_value_or_none) {f : Addr} {fd : FuncData} (F : Fun K "is_lot_deed" "is_lot_deed" s_is_lot_deed f fd) (hm : mg "is_lot_deed" = some (.ref f)) (hb : Binds K fd ["value"] []) : Def P w K mg base "is_lot_deed" 5 SP.is_lot_deed :=
  def_ok F sc_is_lot_deed hm hb SP.is_lot_deed_len fun cdv A outer s H E hr => ⟨_, der_is_lot_deed T D_has_word D_is_key D_is_value D_is_addend D_is_value_or_none hr, SP.is_lot_deed_ok⟩
theorem def_is_lot (T : Tx K mg) (D_is_lot_deed : Def P w K mg base "is_lot_deed" 5 SP.is_lot_deed) {f : Addr} {fd : FuncData} (F : Fun K "is_lot" "is_lot" s_is_lot f fd) (hm : mg "is_lot" = some (.ref f)) (hb : Binds K fd ["value"] []) : Def P w K mg base "is_lot" 6 SP.is_lot :=
  def_ok F sc_is_lot hm hb SP.is_lot_len fun cdv A outer s H E hr => ⟨_, der_is_lot T D_is_lot_deed hr, SP.is_lot_ok⟩
theorem def_is_house (T : Tx K mg) (D_is_from : Def P w K mg base "is_from" 2 SP.is_from) {f : Addr} {fd : FuncData} (F : Fun K "is_house" "is_house" s_is_house f fd) (hm : mg "is_house" = some (.ref f)) (hb : Binds K fd ["value"] []) : Def P w K mg base "is_house" 3 SP.is_house :=
  def_ok F sc_is_house hm hb SP.is_house_len fun cdv A outer s H E hr => ⟨_, der_is_house T D_is_from hr, SP.is_house_ok⟩
theorem def_is_circle (T : Tx K mg) (D_is_house : Def P w K mg base "is_house" 3 SP.is_house) {f : Addr} {fd : FuncData} (F : Fun K "is_circle" "is_circle" s_is_circle f fd) (hm : mg "is_circle" = some (.ref f)) (hb : Binds K fd ["value"] []) : Def P w K mg base "is_circle" 4 SP.is_circle :=
  def_ok F sc_is_circle hm hb SP.is_circle_len fun cdv A outer s H E hr => ⟨_, der_is_circle T D_is_house hr, SP.is_circle_ok⟩
theorem def_is_deed (T : Tx K mg) (D_is_lot_deed : Def P w K mg base "is_lot_deed" 5 SP.is_lot_deed) (D_has_word : Def P w K mg base "has_word" 1 SP.has_word) (D_is_key : Def P w K mg base "is_key" 2 SP.is_key) (D_is_lot : Def P w K mg base "is_lot" 6 SP.is_lot) (D_is_circle : Def P w K mg base "is_circle" 4 SP.is_circle) {f : Addr} {fd : FuncData} (F : Fun K "is_deed" "is_deed" s_is_deed f fd) (hm : mg "is_deed" = some (.ref f)) (hb : Binds K fd ["value"] []) : Def P w K mg base "is_deed" 7 SP.is_deed :=
  def_ok F sc_is_deed hm hb SP.is_deed_len fun cdv A outer s H E hr => ⟨_, der_is_deed T D_is_lot_deed D_has_word D_is_key D_is_lot D_is_circle hr, SP.is_deed_ok⟩
theorem def_are_pairs (T : Tx K mg) (D_is_key : Def P w K mg base "is_key" 2 SP.is_key) (D_is_value : Def P w K mg base "is_value" 3 SP.is_value) {f : Addr} {fd : FuncData} (F : Fun K "are_pairs" "are_pairs" s_are_pairs f fd) (hm : mg "are_pairs" = some (.ref f)) (hb : Binds K fd ["value"] []) : Def P w K mg base "are_pairs" 4 SP.are_pairs :=
  def_ok F sc_are_pairs hm hb SP.are_pairs_len fun cdv A outer s H E hr => ⟨_, der_are_pairs T D_is_key D_is_value hr, SP.are_pairs_ok⟩
theorem def_require_pairs (T : Tx K mg) (D_are_pairs : Def P w K mg base "are_pairs" 4 SP.are_pairs) {f : Addr} {fd : FuncData} (F : Fun K "require_pairs" "require_pairs" s_require_pairs f fd) (hm : mg "require_pairs" = some (.ref f)) (hb : Binds K fd ["value"] []) : Def P w K mg base "require_pairs" 5 SP.require_pairs :=
  def_ok F sc_require_pairs hm hb SP.require_pairs_len fun cdv A outer s H E hr => ⟨_, der_require_pairs T D_are_pairs hr, SP.require_pairs_ok⟩
theorem def_require_deed (T : Tx K mg) (D_is_deed : Def P w K mg base "is_deed" 7 SP.is_deed) {f : Addr} {fd : FuncData} (F : Fun K "require_deed" "require_deed" s_require_deed f fd) (hm : mg "require_deed" = some (.ref f)) (hb : Binds K fd ["value"] []) : Def P w K mg base "require_deed" 8 SP.require_deed :=
  def_ok F sc_require_deed hm hb SP.require_deed_len fun cdv A outer s H E hr => ⟨_, der_require_deed T D_is_deed hr, SP.require_deed_ok⟩
theorem def_with_key (T : Tx K mg)  {f : Addr} {fd : FuncData} (F : Fun K "with_key" "with_key" s_with_key f fd) (hm : mg "with_key" = some (.ref f)) (hb : Binds K fd ["pairs", "key", "value"] []) : Def P w K mg base "with_key" 1 SP.with_key :=
  def_ok F sc_with_key hm hb SP.with_key_len fun cdv A outer s H E hr => ⟨_, der_with_key T  hr, SP.with_key_ok⟩
theorem def_put_in (T : Tx K mg) (D_with_key : Def P w K mg base "with_key" 1 SP.with_key) {f : Addr} {fd : FuncData} (F : Fun K "put_in" "put_in" s_put_in f fd) (hm : mg "put_in" = some (.ref f)) (hb : Binds K fd ["pairs", "key", "value", "answer"] []) : Def P w K mg base "put_in" 2 SP.put_in :=
  def_ok F sc_put_in hm hb SP.put_in_len fun cdv A outer s H E hr => ⟨_, der_put_in T D_with_key hr, SP.put_in_ok⟩
theorem def_added_in (T : Tx K mg) (D_put_in : Def P w K mg base "put_in" 2 SP.put_in) (D_is_whole : Def P w K mg base "is_whole" 1 SP.is_whole) (D_is_addend : Def P w K mg base "is_addend" 2 SP.is_addend) {f : Addr} {fd : FuncData} (F : Fun K "added_in" "added_in" s_added_in f fd) (hm : mg "added_in" = some (.ref f)) (hb : Binds K fd ["pairs", "key", "number"] []) : Def P w K mg base "added_in" 3 SP.added_in :=
  def_ok F sc_added_in hm hb SP.added_in_len fun cdv A outer s H E hr => ⟨_, der_added_in T D_put_in D_is_whole D_is_addend hr, SP.added_in_ok⟩
theorem def_are_same (T : Tx K mg) (D_is_whole : Def P w K mg base "is_whole" 1 SP.is_whole) {f : Addr} {fd : FuncData} (F : Fun K "are_same" "are_same" s_are_same f fd) (hm : mg "are_same" = some (.ref f)) (hb : Binds K fd ["one", "other"] []) : Def P w K mg base "are_same" 2 SP.are_same :=
  def_ok F sc_are_same hm hb SP.are_same_len fun cdv A outer s H E hr => ⟨_, der_are_same T D_is_whole hr, SP.are_same_ok⟩
theorem def_lot_deed_in (T : Tx K mg) (D_put_in : Def P w K mg base "put_in" 2 SP.put_in) (D_added_in : Def P w K mg base "added_in" 3 SP.added_in) (D_are_same : Def P w K mg base "are_same" 2 SP.are_same) {f : Addr} {fd : FuncData} (F : Fun K "lot_deed_in" "lot_deed_in" s_lot_deed_in f fd) (hm : mg "lot_deed_in" = some (.ref f)) (hb : Binds K fd ["pairs", "deed"] []) : Def P w K mg base "lot_deed_in" 4 SP.lot_deed_in :=
  def_ok F sc_lot_deed_in hm hb SP.lot_deed_in_len fun cdv A outer s H E hr => ⟨_, der_lot_deed_in T D_put_in D_added_in D_are_same hr, SP.lot_deed_in_ok⟩
theorem def_does_bar (T : Tx K mg)  {f : Addr} {fd : FuncData} (F : Fun K "does_bar" "does_bar" s_does_bar f fd) (hm : mg "does_bar" = some (.ref f)) (hb : Binds K fd ["answer"] []) : Def P w K mg base "does_bar" 1 SP.does_bar :=
  def_ok F sc_does_bar hm hb SP.does_bar_len fun cdv A outer s H E hr => ⟨_, der_does_bar T  hr, SP.does_bar_ok⟩
theorem def_lot_in (T : Tx K mg) (D_lot_deed_in : Def P w K mg base "lot_deed_in" 4 SP.lot_deed_in) (D_does_bar : Def P w K mg base "does_bar" 1 SP.does_bar) {f : Addr} {fd : FuncData} (F : Fun K "lot_in" "lot_in" s_lot_in f fd) (hm : mg "lot_in" = some (.ref f)) (hb : Binds K fd ["pairs", "lot"] []) : Def P w K mg base "lot_in" 5 SP.lot_in :=
  def_ok F sc_lot_in hm hb SP.lot_in_len fun cdv A outer s H E hr => ⟨_, der_lot_in T D_lot_deed_in D_does_bar hr, SP.lot_in_ok⟩
theorem def_done_in (T : Tx K mg) (D_lot_deed_in : Def P w K mg base "lot_deed_in" 4 SP.lot_deed_in) (D_lot_in : Def P w K mg base "lot_in" 5 SP.lot_in) {f : Addr} {fd : FuncData} (F : Fun K "done_in" "done_in" s_done_in f fd) (hm : mg "done_in" = some (.ref f)) (hb : Binds K fd ["pairs", "deed"] []) : Def P w K mg base "done_in" 6 SP.done_in :=
  def_ok F sc_done_in hm hb SP.done_in_len fun cdv A outer s H E hr => ⟨_, der_done_in T D_lot_deed_in D_lot_in hr, SP.done_in_ok⟩
theorem def_ascending_pairs (T : Tx K mg)  {f : Addr} {fd : FuncData} (F : Fun K "ascending_pairs" "ascending_pairs" s_ascending_pairs f fd) (hm : mg "ascending_pairs" = some (.ref f)) (hb : Binds K fd ["pairs"] []) : Def P w K mg base "ascending_pairs" 1 SP.ascending_pairs :=
  def_ok F sc_ascending_pairs hm hb SP.ascending_pairs_len fun cdv A outer s H E hr => ⟨_, der_ascending_pairs T  hr, SP.ascending_pairs_ok⟩
theorem def_done (T : Tx K mg) (D_require_pairs : Def P w K mg base "require_pairs" 5 SP.require_pairs) (D_require_deed : Def P w K mg base "require_deed" 8 SP.require_deed) (D_done_in : Def P w K mg base "done_in" 6 SP.done_in) (D_ascending_pairs : Def P w K mg base "ascending_pairs" 1 SP.ascending_pairs) {f : Addr} {fd : FuncData} (F : Fun K "done" "done" s_done f fd) (hm : mg "done" = some (.ref f)) (hb : Binds K fd ["pairs", "deed"] []) : Def P w K mg base "done" 9 SP.done :=
  def_ok F sc_done hm hb SP.done_len fun cdv A outer s H E hr => ⟨_, der_done T D_require_pairs D_require_deed D_done_in D_ascending_pairs hr, SP.done_ok⟩
theorem def_run_deeds (T : Tx K mg) (D_require_pairs : Def P w K mg base "require_pairs" 5 SP.require_pairs) (D_ascending_pairs : Def P w K mg base "ascending_pairs" 1 SP.ascending_pairs) (D_done_in : Def P w K mg base "done_in" 6 SP.done_in) (D_is_deed : Def P w K mg base "is_deed" 7 SP.is_deed) {f : Addr} {fd : FuncData} (F : Fun K "run_deeds" "run_deeds" s_run_deeds f fd) (hm : mg "run_deeds" = some (.ref f)) (hb : Binds K fd ["pairs", "deeds"] []) : Def P w K mg base "run_deeds" 8 SP.run_deeds :=
  def_ok F sc_run_deeds hm hb SP.run_deeds_len fun cdv A outer s H E hr => ⟨_, der_run_deeds T D_require_pairs D_ascending_pairs D_done_in D_is_deed hr, SP.run_deeds_ok⟩
theorem def_is_read (T : Tx K mg) (D_require_deed : Def P w K mg base "require_deed" 8 SP.require_deed) {f : Addr} {fd : FuncData} (F : Fun K "is_read" "is_read" s_is_read f fd) (hm : mg "is_read" = some (.ref f)) (hb : Binds K fd ["deed"] []) : Def P w K mg base "is_read" 9 SP.is_read :=
  def_ok F sc_is_read hm hb SP.is_read_len fun cdv A outer s H E hr => ⟨_, der_is_read T D_require_deed hr, SP.is_read_ok⟩
theorem def_keys_of (T : Tx K mg) (D_require_deed : Def P w K mg base "require_deed" 8 SP.require_deed) {f : Addr} {fd : FuncData} (F : Fun K "keys_of" "keys_of" s_keys_of f fd) (hm : mg "keys_of" = some (.ref f)) (hb : Binds K fd ["deed"] []) : Def P w K mg base "keys_of" 9 SP.keys_of :=
  def_ok F sc_keys_of hm hb SP.keys_of_len fun cdv A outer s H E hr => ⟨_, der_keys_of T D_require_deed hr, SP.keys_of_ok⟩
theorem def__law_right (T : Tx K mg) (TB : LamX.TabB base mg O__law_right P__law_right) (D__law_pick : Def P w K mg base "_law_pick" 2 SP.pick) (D_is_deed : Def P w K mg base "is_deed" 7 SP.is_deed) (D_done : Def P w K mg base "done" 9 SP.done) (D_run_deeds : Def P w K mg base "run_deeds" 8 SP.run_deeds) (D_is_read : Def P w K mg base "is_read" 9 SP.is_read) (D_keys_of : Def P w K mg base "keys_of" 9 SP.keys_of) {f : Addr} {fd : FuncData} (F : Fun K "_law_right" "_law_right" s__law_right f fd) (hc : fd.code = .ref O__law_right) (hm : mg "_law_right" = some (.ref f)) (hb : Binds K fd ["_law_dice_here"] []) : Def P w K mg base "_law_right" 13 SP.right :=
  def_okC F hc sc__law_right hm hb SP.right_len fun A outer s H E hr => ⟨_, der__law_right T TB D__law_pick D_is_deed D_done D_run_deeds D_is_read D_keys_of hr, SP.right_ok⟩
theorem fn_law (T : Tx K mg) (TB : LamX.TabB base mg O_law P_law) (D__law_dice : Def P w K mg base "_law_dice" 1 SP.dice) (D__law_right : Def P w K mg base "_law_right" 13 SP.right) (D_done : Def P w K mg base "done" 9 SP.done) (D_run_deeds : Def P w K mg base "run_deeds" 8 SP.run_deeds) {f : Addr} {fd : FuncData} (F : Fun K "law" "law" s_law f fd) (hc : fd.code = .ref O_law) : FnG P w K mg base (L2.CX P w) 14 f fd ["_law_script"] (lift K SP.law) :=
  fn_okC F hc sc_law SP.law_len fun A outer s H E hr => ⟨_, der_law T TB D__law_dice D__law_right D_done D_run_deeds hr, SP.law_ok⟩
end
theorem all_mk {l : PySem.W.OpenLaw} {w : World} {K : PySem.W.Frag} {h : Heap} {mg : Str → Option Value} {fa : Addr} (X : K.In h) (G : h.Ns mainGlobals mg) (hfa : mg "law" = some (.ref fa))
    {f0 : Addr} {od0 an0 : Option Addr} {sl0 : Array (Option Value)} {oc0 kV0 dc0 pm0 cd0 ct0 : Value}
    {f1 : Addr} {od1 an1 : Option Addr} {sl1 : Array (Option Value)} {oc1 kV1 dc1 pm1 cd1 ct1 : Value}
    {f2 : Addr} {od2 an2 : Option Addr} {sl2 : Array (Option Value)} {oc2 kV2 dc2 pm2 cd2 ct2 : Value}
    {f3 : Addr} {od3 an3 : Option Addr} {sl3 : Array (Option Value)} {oc3 kV3 dc3 pm3 cd3 ct3 : Value}
    {f4 : Addr} {od4 an4 : Option Addr} {sl4 : Array (Option Value)} {oc4 kV4 dc4 pm4 cd4 ct4 : Value}
    {f5 : Addr} {od5 an5 : Option Addr} {sl5 : Array (Option Value)} {oc5 kV5 dc5 pm5 cd5 ct5 : Value}
    {f6 : Addr} {od6 an6 : Option Addr} {sl6 : Array (Option Value)} {oc6 kV6 dc6 pm6 cd6 ct6 : Value}
    {f7 : Addr} {od7 an7 : Option Addr} {sl7 : Array (Option Value)} {oc7 kV7 dc7 pm7 cd7 ct7 : Value}
    {f8 : Addr} {od8 an8 : Option Addr} {sl8 : Array (Option Value)} {oc8 kV8 dc8 pm8 cd8 ct8 : Value}
    {f9 : Addr} {od9 an9 : Option Addr} {sl9 : Array (Option Value)} {oc9 kV9 dc9 pm9 cd9 ct9 : Value}
    {f10 : Addr} {od10 an10 : Option Addr} {sl10 : Array (Option Value)} {oc10 kV10 dc10 pm10 cd10 ct10 : Value}
    {f11 : Addr} {od11 an11 : Option Addr} {sl11 : Array (Option Value)} {oc11 kV11 dc11 pm11 cd11 ct11 : Value}
    {f12 : Addr} {od12 an12 : Option Addr} {sl12 : Array (Option Value)} {oc12 kV12 dc12 pm12 cd12 ct12 : Value}
    {f13 : Addr} {od13 an13 : Option Addr} {sl13 : Array (Option Value)} {oc13 kV13 dc13 pm13 cd13 ct13 : Value}
    {f14 : Addr} {od14 an14 : Option Addr} {sl14 : Array (Option Value)} {oc14 kV14 dc14 pm14 cd14 ct14 : Value}
    {f15 : Addr} {od15 an15 : Option Addr} {sl15 : Array (Option Value)} {oc15 kV15 dc15 pm15 cd15 ct15 : Value}
    {f16 : Addr} {od16 an16 : Option Addr} {sl16 : Array (Option Value)} {oc16 kV16 dc16 pm16 cd16 ct16 : Value}
    {f17 : Addr} {od17 an17 : Option Addr} {sl17 : Array (Option Value)} {oc17 kV17 dc17 pm17 cd17 ct17 : Value}
    {f18 : Addr} {od18 an18 : Option Addr} {sl18 : Array (Option Value)} {oc18 kV18 dc18 pm18 cd18 ct18 : Value}
    {f19 : Addr} {od19 an19 : Option Addr} {sl19 : Array (Option Value)} {oc19 kV19 dc19 pm19 cd19 ct19 : Value}
    {f20 : Addr} {od20 an20 : Option Addr} {sl20 : Array (Option Value)} {oc20 kV20 dc20 pm20 cd20 ct20 : Value}
    {f21 : Addr} {od21 an21 : Option Addr} {sl21 : Array (Option Value)} {oc21 kV21 dc21 pm21 cd21 ct21 : Value}
    {f22 : Addr} {od22 an22 : Option Addr} {sl22 : Array (Option Value)} {oc22 kV22 dc22 pm22 cd22 ct22 : Value}
    {f23 : Addr} {od23 an23 : Option Addr} {sl23 : Array (Option Value)} {oc23 kV23 dc23 pm23 cd23 ct23 : Value}
    {f24 : Addr} {od24 an24 : Option Addr} {sl24 : Array (Option Value)} {oc24 kV24 dc24 pm24 cd24 ct24 : Value}
    {f25 : Addr} {od25 an25 : Option Addr} {sl25 : Array (Option Value)} {oc25 kV25 dc25 pm25 cd25 ct25 : Value}
    {f26 : Addr} {od26 an26 : Option Addr} {sl26 : Array (Option Value)} {oc26 kV26 dc26 pm26 cd26 ct26 : Value}
    {f27 : Addr} {od27 an27 : Option Addr} {sl27 : Array (Option Value)} {oc27 kV27 dc27 pm27 cd27 ct27 : Value}
    {f28 : Addr} {od28 an28 : Option Addr} {sl28 : Array (Option Value)} {oc28 kV28 dc28 pm28 cd28 ct28 : Value}
    {f29 : Addr} {od29 an29 : Option Addr} {sl29 : Array (Option Value)} {oc29 kV29 dc29 pm29 cd29 ct29 : Value}
    {f30 : Addr} {od30 an30 : Option Addr} {sl30 : Array (Option Value)} {oc30 kV30 dc30 pm30 cd30 ct30 : Value}
    {f31 : Addr} {od31 an31 : Option Addr} {sl31 : Array (Option Value)} {oc31 kV31 dc31 pm31 cd31 ct31 : Value}
    {f32 : Addr} {od32 an32 : Option Addr} {sl32 : Array (Option Value)} {oc32 kV32 dc32 pm32 cd32 ct32 : Value}
    {f33 : Addr} {od33 an33 : Option Addr} {sl33 : Array (Option Value)} {oc33 kV33 dc33 pm33 ct33 : Value}
    {f34 : Addr} {od34 an34 : Option Addr} {sl34 : Array (Option Value)} {oc34 kV34 dc34 pm34 ct34 : Value}
    {ta0 : Addr} {ts0 : Array (Option Value)} {tn0 : Nat}
    {t0_0 : Tok}
    {t0_1 : Tok}
    {t0_2 : Tok}
    {t0_3 : Tok}
    {t0_4 : Tok}
    {t0_5 : Tok}
    {t0_6 : Tok}
    {t0_7 : Tok}
    {t1 : _}
    {t2 : _}
    {ta3 : Addr} {ts3 : Array (Option Value)} {tn3 : Nat}
    {t3_0 : Tok}
    {t3_1 : Tok}
    {t3_2 : Tok}
    {t3_3 : Tok}
    {t3_4 : Tok}
    {t4 : _}
    {t5 : _}
    {t6 : _}
    {t7 : _}
    {t8 : _}
    {t9 : _}
    {t10 : _}
    {ta11 : Addr} {ts11 : Array (Option Value)} {tn11 : Nat}
    {t11_0 : Tok}
    {t11_1 : Tok}
    {ta12 : Addr} {ts12 : Array (Option Value)} {tn12 : Nat}
    {ta12_0 : Addr} {ts12_0 : Array (Option Value)} {tn12_0 : Nat}
    {t12_0_0 : Tok}
    {ta12_1 : Addr} {ts12_1 : Array (Option Value)} {tn12_1 : Nat}
    {t12_1_0 : Tok}
    {ta12_2 : Addr} {ts12_2 : Array (Option Value)} {tn12_2 : Nat}
    {t12_2_0 : Tok}
    {t13 : _}
    {t14 : _}
    {f_m_law_met : Addr} {od_m_law_met an_m_law_met : Option Addr} {sl_m_law_met : Array (Option Value)} {oc_m_law_met kV_m_law_met dc_m_law_met pm_m_law_met cd_m_law_met ct_m_law_met : Value}
    (a0 : PySem.W.nsIn K mainGlobals "_law_dice" = some (some (.ref f0))) (l0 : K.lookup f0 = some ⟨oc0, od0, .func (PySem.W.fnOf "_law_dice" "_law_dice" (defArgs s__law_dice) (defBody s__law_dice) (defScope s__law_dice) .none kV0 dc0 pm0 an0 cd0 ct0), sl0⟩) (c0 : PySem.W.codeIn K cd0 "_law_dice" = true) (k0 : PySem.W.keepIn K (.ref f0) = true)
    (a1 : PySem.W.nsIn K mainGlobals "_law_roll" = some (some (.ref f1))) (l1 : K.lookup f1 = some ⟨oc1, od1, .func (PySem.W.fnOf "_law_roll" "_law_roll" (defArgs s__law_roll) (defBody s__law_roll) (defScope s__law_roll) .none kV1 dc1 pm1 an1 cd1 ct1), sl1⟩) (c1 : PySem.W.codeIn K cd1 "_law_roll" = true) (k1 : PySem.W.keepIn K (.ref f1) = true)
    (a2 : PySem.W.nsIn K mainGlobals "_law_pick" = some (some (.ref f2))) (l2 : K.lookup f2 = some ⟨oc2, od2, .func (PySem.W.fnOf "_law_pick" "_law_pick" (defArgs s__law_pick) (defBody s__law_pick) (defScope s__law_pick) .none kV2 dc2 pm2 an2 cd2 ct2), sl2⟩) (c2 : PySem.W.codeIn K cd2 "_law_pick" = true) (k2 : PySem.W.keepIn K (.ref f2) = true)
    (a3 : PySem.W.nsIn K mainGlobals "has_word" = some (some (.ref f3))) (l3 : K.lookup f3 = some ⟨oc3, od3, .func (PySem.W.fnOf "has_word" "has_word" (defArgs s_has_word) (defBody s_has_word) (defScope s_has_word) .none kV3 dc3 pm3 an3 cd3 ct3), sl3⟩) (c3 : PySem.W.codeIn K cd3 "has_word" = true) (k3 : PySem.W.keepIn K (.ref f3) = true)
    (a4 : PySem.W.nsIn K mainGlobals "has_signs" = some (some (.ref f4))) (l4 : K.lookup f4 = some ⟨oc4, od4, .func (PySem.W.fnOf "has_signs" "has_signs" (defArgs s_has_signs) (defBody s_has_signs) (defScope s_has_signs) .none kV4 dc4 pm4 an4 cd4 ct4), sl4⟩) (c4 : PySem.W.codeIn K cd4 "has_signs" = true) (k4 : PySem.W.keepIn K (.ref f4) = true)
    (a5 : PySem.W.nsIn K mainGlobals "is_key" = some (some (.ref f5))) (l5 : K.lookup f5 = some ⟨oc5, od5, .func (PySem.W.fnOf "is_key" "is_key" (defArgs s_is_key) (defBody s_is_key) (defScope s_is_key) .none kV5 dc5 pm5 an5 cd5 ct5), sl5⟩) (c5 : PySem.W.codeIn K cd5 "is_key" = true) (k5 : PySem.W.keepIn K (.ref f5) = true)
    (a6 : PySem.W.nsIn K mainGlobals "is_integer" = some (some (.ref f6))) (l6 : K.lookup f6 = some ⟨oc6, od6, .func (PySem.W.fnOf "is_integer" "is_integer" (defArgs s_is_integer) (defBody s_is_integer) (defScope s_is_integer) .none kV6 dc6 pm6 an6 cd6 ct6), sl6⟩) (c6 : PySem.W.codeIn K cd6 "is_integer" = true) (k6 : PySem.W.keepIn K (.ref f6) = true)
    (a7 : PySem.W.nsIn K mainGlobals "is_from" = some (some (.ref f7))) (l7 : K.lookup f7 = some ⟨oc7, od7, .func (PySem.W.fnOf "is_from" "is_from" (defArgs s_is_from) (defBody s_is_from) (defScope s_is_from) .none kV7 dc7 pm7 an7 cd7 ct7), sl7⟩) (c7 : PySem.W.codeIn K cd7 "is_from" = true) (k7 : PySem.W.keepIn K (.ref f7) = true)
    (a8 : PySem.W.nsIn K mainGlobals "is_value" = some (some (.ref f8))) (l8 : K.lookup f8 = some ⟨oc8, od8, .func (PySem.W.fnOf "is_value" "is_value" (defArgs s_is_value) (defBody s_is_value) (defScope s_is_value) .none kV8 dc8 pm8 an8 cd8 ct8), sl8⟩) (c8 : PySem.W.codeIn K cd8 "is_value" = true) (k8 : PySem.W.keepIn K (.ref f8) = true)
    (a9 : PySem.W.nsIn K mainGlobals "is_whole" = some (some (.ref f9))) (l9 : K.lookup f9 = some ⟨oc9, od9, .func (PySem.W.fnOf "is_whole" "is_whole" (defArgs s_is_whole) (defBody s_is_whole) (defScope s_is_whole) .none kV9 dc9 pm9 an9 cd9 ct9), sl9⟩) (c9 : PySem.W.codeIn K cd9 "is_whole" = true) (k9 : PySem.W.keepIn K (.ref f9) = true)
    (a10 : PySem.W.nsIn K mainGlobals "is_addend" = some (some (.ref f10))) (l10 : K.lookup f10 = some ⟨oc10, od10, .func (PySem.W.fnOf "is_addend" "is_addend" (defArgs s_is_addend) (defBody s_is_addend) (defScope s_is_addend) .none kV10 dc10 pm10 an10 cd10 ct10), sl10⟩) (c10 : PySem.W.codeIn K cd10 "is_addend" = true) (k10 : PySem.W.keepIn K (.ref f10) = true)
    (a11 : PySem.W.nsIn K mainGlobals "is_value_or_none" = some (some (.ref f11))) (l11 : K.lookup f11 = some ⟨oc11, od11, .func (PySem.W.fnOf "is_value_or_none" "is_value_or_none" (defArgs s_is_value_or_none) (defBody s_is_value_or_none) (defScope s_is_value_or_none) .none kV11 dc11 pm11 an11 cd11 ct11), sl11⟩) (c11 : PySem.W.codeIn K cd11 "is_value_or_none" = true) (k11 : PySem.W.keepIn K (.ref f11) = true)
    (a12 : PySem.W.nsIn K mainGlobals "is_lot_deed" = some (some (.ref f12))) (l12 : K.lookup f12 = some ⟨oc12, od12, .func (PySem.W.fnOf "is_lot_deed" "is_lot_deed" (defArgs s_is_lot_deed) (defBody s_is_lot_deed) (defScope s_is_lot_deed) .none kV12 dc12 pm12 an12 cd12 ct12), sl12⟩) (c12 : PySem.W.codeIn K cd12 "is_lot_deed" = true) (k12 : PySem.W.keepIn K (.ref f12) = true)
    (a13 : PySem.W.nsIn K mainGlobals "is_lot" = some (some (.ref f13))) (l13 : K.lookup f13 = some ⟨oc13, od13, .func (PySem.W.fnOf "is_lot" "is_lot" (defArgs s_is_lot) (defBody s_is_lot) (defScope s_is_lot) .none kV13 dc13 pm13 an13 cd13 ct13), sl13⟩) (c13 : PySem.W.codeIn K cd13 "is_lot" = true) (k13 : PySem.W.keepIn K (.ref f13) = true)
    (a14 : PySem.W.nsIn K mainGlobals "is_house" = some (some (.ref f14))) (l14 : K.lookup f14 = some ⟨oc14, od14, .func (PySem.W.fnOf "is_house" "is_house" (defArgs s_is_house) (defBody s_is_house) (defScope s_is_house) .none kV14 dc14 pm14 an14 cd14 ct14), sl14⟩) (c14 : PySem.W.codeIn K cd14 "is_house" = true) (k14 : PySem.W.keepIn K (.ref f14) = true)
    (a15 : PySem.W.nsIn K mainGlobals "is_circle" = some (some (.ref f15))) (l15 : K.lookup f15 = some ⟨oc15, od15, .func (PySem.W.fnOf "is_circle" "is_circle" (defArgs s_is_circle) (defBody s_is_circle) (defScope s_is_circle) .none kV15 dc15 pm15 an15 cd15 ct15), sl15⟩) (c15 : PySem.W.codeIn K cd15 "is_circle" = true) (k15 : PySem.W.keepIn K (.ref f15) = true)
    (a16 : PySem.W.nsIn K mainGlobals "is_deed" = some (some (.ref f16))) (l16 : K.lookup f16 = some ⟨oc16, od16, .func (PySem.W.fnOf "is_deed" "is_deed" (defArgs s_is_deed) (defBody s_is_deed) (defScope s_is_deed) .none kV16 dc16 pm16 an16 cd16 ct16), sl16⟩) (c16 : PySem.W.codeIn K cd16 "is_deed" = true) (k16 : PySem.W.keepIn K (.ref f16) = true)
    (a17 : PySem.W.nsIn K mainGlobals "are_pairs" = some (some (.ref f17))) (l17 : K.lookup f17 = some ⟨oc17, od17, .func (PySem.W.fnOf "are_pairs" "are_pairs" (defArgs s_are_pairs) (defBody s_are_pairs) (defScope s_are_pairs) .none kV17 dc17 pm17 an17 cd17 ct17), sl17⟩) (c17 : PySem.W.codeIn K cd17 "are_pairs" = true) (k17 : PySem.W.keepIn K (.ref f17) = true)
    (a18 : PySem.W.nsIn K mainGlobals "require_pairs" = some (some (.ref f18))) (l18 : K.lookup f18 = some ⟨oc18, od18, .func (PySem.W.fnOf "require_pairs" "require_pairs" (defArgs s_require_pairs) (defBody s_require_pairs) (defScope s_require_pairs) .none kV18 dc18 pm18 an18 cd18 ct18), sl18⟩) (c18 : PySem.W.codeIn K cd18 "require_pairs" = true) (k18 : PySem.W.keepIn K (.ref f18) = true)
    (a19 : PySem.W.nsIn K mainGlobals "require_deed" = some (some (.ref f19))) (l19 : K.lookup f19 = some ⟨oc19, od19, .func (PySem.W.fnOf "require_deed" "require_deed" (defArgs s_require_deed) (defBody s_require_deed) (defScope s_require_deed) .none kV19 dc19 pm19 an19 cd19 ct19), sl19⟩) (c19 : PySem.W.codeIn K cd19 "require_deed" = true) (k19 : PySem.W.keepIn K (.ref f19) = true)
    (a20 : PySem.W.nsIn K mainGlobals "with_key" = some (some (.ref f20))) (l20 : K.lookup f20 = some ⟨oc20, od20, .func (PySem.W.fnOf "with_key" "with_key" (defArgs s_with_key) (defBody s_with_key) (defScope s_with_key) .none kV20 dc20 pm20 an20 cd20 ct20), sl20⟩) (c20 : PySem.W.codeIn K cd20 "with_key" = true) (k20 : PySem.W.keepIn K (.ref f20) = true)
    (a21 : PySem.W.nsIn K mainGlobals "put_in" = some (some (.ref f21))) (l21 : K.lookup f21 = some ⟨oc21, od21, .func (PySem.W.fnOf "put_in" "put_in" (defArgs s_put_in) (defBody s_put_in) (defScope s_put_in) .none kV21 dc21 pm21 an21 cd21 ct21), sl21⟩) (c21 : PySem.W.codeIn K cd21 "put_in" = true) (k21 : PySem.W.keepIn K (.ref f21) = true)
    (a22 : PySem.W.nsIn K mainGlobals "added_in" = some (some (.ref f22))) (l22 : K.lookup f22 = some ⟨oc22, od22, .func (PySem.W.fnOf "added_in" "added_in" (defArgs s_added_in) (defBody s_added_in) (defScope s_added_in) .none kV22 dc22 pm22 an22 cd22 ct22), sl22⟩) (c22 : PySem.W.codeIn K cd22 "added_in" = true) (k22 : PySem.W.keepIn K (.ref f22) = true)
    (a23 : PySem.W.nsIn K mainGlobals "are_same" = some (some (.ref f23))) (l23 : K.lookup f23 = some ⟨oc23, od23, .func (PySem.W.fnOf "are_same" "are_same" (defArgs s_are_same) (defBody s_are_same) (defScope s_are_same) .none kV23 dc23 pm23 an23 cd23 ct23), sl23⟩) (c23 : PySem.W.codeIn K cd23 "are_same" = true) (k23 : PySem.W.keepIn K (.ref f23) = true)
    (a24 : PySem.W.nsIn K mainGlobals "lot_deed_in" = some (some (.ref f24))) (l24 : K.lookup f24 = some ⟨oc24, od24, .func (PySem.W.fnOf "lot_deed_in" "lot_deed_in" (defArgs s_lot_deed_in) (defBody s_lot_deed_in) (defScope s_lot_deed_in) .none kV24 dc24 pm24 an24 cd24 ct24), sl24⟩) (c24 : PySem.W.codeIn K cd24 "lot_deed_in" = true) (k24 : PySem.W.keepIn K (.ref f24) = true)
    (a25 : PySem.W.nsIn K mainGlobals "does_bar" = some (some (.ref f25))) (l25 : K.lookup f25 = some ⟨oc25, od25, .func (PySem.W.fnOf "does_bar" "does_bar" (defArgs s_does_bar) (defBody s_does_bar) (defScope s_does_bar) .none kV25 dc25 pm25 an25 cd25 ct25), sl25⟩) (c25 : PySem.W.codeIn K cd25 "does_bar" = true) (k25 : PySem.W.keepIn K (.ref f25) = true)
    (a26 : PySem.W.nsIn K mainGlobals "lot_in" = some (some (.ref f26))) (l26 : K.lookup f26 = some ⟨oc26, od26, .func (PySem.W.fnOf "lot_in" "lot_in" (defArgs s_lot_in) (defBody s_lot_in) (defScope s_lot_in) .none kV26 dc26 pm26 an26 cd26 ct26), sl26⟩) (c26 : PySem.W.codeIn K cd26 "lot_in" = true) (k26 : PySem.W.keepIn K (.ref f26) = true)
    (a27 : PySem.W.nsIn K mainGlobals "done_in" = some (some (.ref f27))) (l27 : K.lookup f27 = some ⟨oc27, od27, .func (PySem.W.fnOf "done_in" "done_in" (defArgs s_done_in) (defBody s_done_in) (defScope s_done_in) .none kV27 dc27 pm27 an27 cd27 ct27), sl27⟩) (c27 : PySem.W.codeIn K cd27 "done_in" = true) (k27 : PySem.W.keepIn K (.ref f27) = true)
    (a28 : PySem.W.nsIn K mainGlobals "ascending_pairs" = some (some (.ref f28))) (l28 : K.lookup f28 = some ⟨oc28, od28, .func (PySem.W.fnOf "ascending_pairs" "ascending_pairs" (defArgs s_ascending_pairs) (defBody s_ascending_pairs) (defScope s_ascending_pairs) .none kV28 dc28 pm28 an28 cd28 ct28), sl28⟩) (c28 : PySem.W.codeIn K cd28 "ascending_pairs" = true) (k28 : PySem.W.keepIn K (.ref f28) = true)
    (a29 : PySem.W.nsIn K mainGlobals "done" = some (some (.ref f29))) (l29 : K.lookup f29 = some ⟨oc29, od29, .func (PySem.W.fnOf "done" "done" (defArgs s_done) (defBody s_done) (defScope s_done) .none kV29 dc29 pm29 an29 cd29 ct29), sl29⟩) (c29 : PySem.W.codeIn K cd29 "done" = true) (k29 : PySem.W.keepIn K (.ref f29) = true)
    (a30 : PySem.W.nsIn K mainGlobals "run_deeds" = some (some (.ref f30))) (l30 : K.lookup f30 = some ⟨oc30, od30, .func (PySem.W.fnOf "run_deeds" "run_deeds" (defArgs s_run_deeds) (defBody s_run_deeds) (defScope s_run_deeds) .none kV30 dc30 pm30 an30 cd30 ct30), sl30⟩) (c30 : PySem.W.codeIn K cd30 "run_deeds" = true) (k30 : PySem.W.keepIn K (.ref f30) = true)
    (a31 : PySem.W.nsIn K mainGlobals "is_read" = some (some (.ref f31))) (l31 : K.lookup f31 = some ⟨oc31, od31, .func (PySem.W.fnOf "is_read" "is_read" (defArgs s_is_read) (defBody s_is_read) (defScope s_is_read) .none kV31 dc31 pm31 an31 cd31 ct31), sl31⟩) (c31 : PySem.W.codeIn K cd31 "is_read" = true) (k31 : PySem.W.keepIn K (.ref f31) = true)
    (a32 : PySem.W.nsIn K mainGlobals "keys_of" = some (some (.ref f32))) (l32 : K.lookup f32 = some ⟨oc32, od32, .func (PySem.W.fnOf "keys_of" "keys_of" (defArgs s_keys_of) (defBody s_keys_of) (defScope s_keys_of) .none kV32 dc32 pm32 an32 cd32 ct32), sl32⟩) (c32 : PySem.W.codeIn K cd32 "keys_of" = true) (k32 : PySem.W.keepIn K (.ref f32) = true)
    (a33 : PySem.W.nsIn K mainGlobals "_law_right" = some (some (.ref f33))) (l33 : K.lookup f33 = some ⟨oc33, od33, .func (PySem.W.fnOf "_law_right" "_law_right" (defArgs s__law_right) (defBody s__law_right) (defScope s__law_right) .none kV33 dc33 pm33 an33 (.ref O__law_right) ct33), sl33⟩) (c33 : PySem.W.codeIn K (.ref O__law_right) "_law_right" = true) (k33 : PySem.W.keepIn K (.ref f33) = true)
    (a34 : PySem.W.nsIn K mainGlobals "law" = some (some (.ref f34))) (l34 : K.lookup f34 = some ⟨oc34, od34, .func (PySem.W.fnOf "law" "law" (defArgs s_law) (defBody s_law) (defScope s_law) .none kV34 dc34 pm34 an34 (.ref O_law) ct34), sl34⟩) (c34 : PySem.W.codeIn K (.ref O_law) "law" = true) (k34 : PySem.W.keepIn K (.ref f34) = true)
    (z0 : PySem.W.nsIn K mainGlobals "abs" = some none)
    (z1 : PySem.W.nsIn K mainGlobals "all" = some none)
    (z2 : PySem.W.nsIn K mainGlobals "bool" = some none)
    (z3 : PySem.W.nsIn K mainGlobals "dict" = some none)
    (z4 : PySem.W.nsIn K mainGlobals "enumerate" = some none)
    (z5 : PySem.W.nsIn K mainGlobals "int" = some none)
    (z6 : PySem.W.nsIn K mainGlobals "isinstance" = some none)
    (z7 : PySem.W.nsIn K mainGlobals "len" = some none)
    (z8 : PySem.W.nsIn K mainGlobals "max" = some none)
    (z9 : PySem.W.nsIn K mainGlobals "min" = some none)
    (z10 : PySem.W.nsIn K mainGlobals "range" = some none)
    (z11 : PySem.W.nsIn K mainGlobals "sorted" = some none)
    (z12 : PySem.W.nsIn K mainGlobals "str" = some none)
    (z13 : PySem.W.nsIn K mainGlobals "tuple" = some none)
    (z14 : PySem.W.nsIn K mainGlobals "zip" = some none)
    (gl0 : K.lookup ta0 = some ⟨.type "tuple", none, .seq #[.str "put" t0_0, .str "drop" t0_1, .str "get" t0_2, .str "add" t0_3, .str "swap" t0_4, .str "list" t0_5, .str "all" t0_6, .str "circle" t0_7] tn0, ts0⟩)
    (gc0 : PySem.W.nsIn K mainGlobals "DEED_WORDS" = some (some (.ref ta0)))
    (gc1 : PySem.W.nsIn K mainGlobals "GREATEST" = some (some (.int 1000000000000000000000000000000000000000000000000000000000000 t1)))
    (gc2 : PySem.W.nsIn K mainGlobals "LEAST" = some (some (.int 1000000000000 t2)))
    (gl3 : K.lookup ta3 = some ⟨.type "tuple", none, .seq #[.str "put" t3_0, .str "drop" t3_1, .str "get" t3_2, .str "add" t3_3, .str "swap" t3_4] tn3, ts3⟩)
    (gc3 : PySem.W.nsIn K mainGlobals "LOT_WORDS" = some (some (.ref ta3)))
    (gc4 : PySem.W.nsIn K mainGlobals "MAX_CIRCLE" = some (some (.int 7 t4)))
    (gc5 : PySem.W.nsIn K mainGlobals "MAX_HOUSES" = some (some (.int 9 t5)))
    (gc6 : PySem.W.nsIn K mainGlobals "MAX_KEY" = some (some (.int 8 t6)))
    (gc7 : PySem.W.nsIn K mainGlobals "MAX_KEYS" = some (some (.int 24 t7)))
    (gc8 : PySem.W.nsIn K mainGlobals "MAX_LOT" = some (some (.int 6 t8)))
    (gc9 : PySem.W.nsIn K mainGlobals "MAX_SIGNS" = some (some (.int 12 t9)))
    (gc10 : PySem.W.nsIn K mainGlobals "MAX_SUM" = some (some (.int 999999999999 t10)))
    (gl11 : K.lookup ta11 = some ⟨.type "tuple", none, .seq #[.str "get" t11_0, .str "list" t11_1] tn11, ts11⟩)
    (gc11 : PySem.W.nsIn K mainGlobals "READ_WORDS" = some (some (.ref ta11)))
    (gl12_0 : K.lookup ta12_0 = some ⟨.type "tuple", none, .seq #[.str "kind" t12_0_0] tn12_0, ts12_0⟩)
    (gl12_1 : K.lookup ta12_1 = some ⟨.type "tuple", none, .seq #[.str "bound" t12_1_0] tn12_1, ts12_1⟩)
    (gl12_2 : K.lookup ta12_2 = some ⟨.type "tuple", none, .seq #[.str "full" t12_2_0] tn12_2, ts12_2⟩)
    (gl12 : K.lookup ta12 = some ⟨.type "tuple", none, .seq #[.ref ta12_0, .ref ta12_1, .ref ta12_2] tn12, ts12⟩)
    (gc12 : PySem.W.nsIn K mainGlobals "REFUSALS" = some (some (.ref ta12)))
    (gc13 : PySem.W.nsIn K mainGlobals "SMALL_LETTERS" = some (some (.str "abcdefghijklmnopqrstuvwxyz" t13)))
    (gc14 : PySem.W.nsIn K mainGlobals "STRING_SIGNS" = some (some (.str "abcdefghijklmnopqrstuvwxyz0123456789 " t14)))
    (xm_InvalidDeed_InvalidState : PySem.W.exmOne K (.ref C_InvalidDeed) (.ref C_InvalidState) = some false)
    (xm_InvalidDeed_InvalidDeed : PySem.W.exmOne K (.ref C_InvalidDeed) (.ref C_InvalidDeed) = some true)
    (xm_InvalidState_InvalidState : PySem.W.exmOne K (.ref C_InvalidState) (.ref C_InvalidState) = some true)
    (xm_InvalidState_InvalidDeed : PySem.W.exmOne K (.ref C_InvalidState) (.ref C_InvalidDeed) = some false)
    (xg_InvalidDeed : PySem.W.nsIn K mainGlobals "InvalidDeed" = some (some (.ref C_InvalidDeed)))
    (xg_InvalidState : PySem.W.nsIn K mainGlobals "InvalidState" = some (some (.ref C_InvalidState)))
    (xe_InvalidDeed : PySem.W.excIn K C_InvalidDeed [.type "ValueError", .type "Exception", .type "BaseException", .type "object"] "ValueError.__new__" = true)
    (xk_InvalidDeed : PySem.W.keepIn K (.ref C_InvalidDeed) = true) (xs_InvalidDeed : PySem.W.subIn K (.ref C_InvalidDeed) (.type "BaseException") = some true) (xt_InvalidDeed : PySem.W.typeIn K (.ref C_InvalidDeed) = some (.type "type"))
    (xe_InvalidState : PySem.W.excIn K C_InvalidState [.type "ValueError", .type "Exception", .type "BaseException", .type "object"] "ValueError.__new__" = true)
    (xk_InvalidState : PySem.W.keepIn K (.ref C_InvalidState) = true) (xs_InvalidState : PySem.W.subIn K (.ref C_InvalidState) (.type "BaseException") = some true) (xt_InvalidState : PySem.W.typeIn K (.ref C_InvalidState) = some (.type "type"))
    (a_m_law_met : PySem.W.nsIn K mainGlobals "_law_met" = some (some (.ref f_m_law_met))) (l_m_law_met : K.lookup f_m_law_met = some ⟨oc_m_law_met, od_m_law_met, .func (PySem.W.fnOf "_law_met" "_law_met" (defArgs s__law_met) (defBody s__law_met) (defScope s__law_met) .none kV_m_law_met dc_m_law_met pm_m_law_met an_m_law_met cd_m_law_met ct_m_law_met), sl_m_law_met⟩) (c_m_law_met : PySem.W.codeIn K cd_m_law_met "_law_met" = true) (k_m_law_met : PySem.W.keepIn K (.ref f_m_law_met) = true)
    (hd_law : PySem.W.codeHdIn K O_law P_law = true) (np_law : K.lookup P_law = none) (tb_law : h.get? P_law = some { cls := .none, data := .fields #[] })
    (hd__law_right : PySem.W.codeHdIn K O__law_right P__law_right = true) (np__law_right : K.lookup P__law_right = none) (tb__law_right : h.get? P__law_right = some { cls := .none, data := .fields #[] }) :
    ∃ (fd : FuncData) (cs : List (Addr × Addr)) (sp : Sp), (∀ p ∈ cs, h.get? p.2 = some { cls := .none, data := .fields #[] }) ∧ (∀ p ∈ cs, K.lookup p.2 = none) ∧ (∀ p ∈ cs, PySem.W.CodeHd h p.1 p.2) ∧ (∀ (s : Shared) (v : Value), BindsTo s fd ⟨[v], []⟩ [("_law_script", v)]) ∧ (∀ (H0 : Hp) (a : Addr) (ns : List Int), ns.length ≤ 63 → (∀ p ∈ cs, H0 p.2 = some (.tbl #[])) → SqL K H0 a (ns.map V.int) → sp [.ref a] H0 (fun v _ => v = .bl true) fun _ _ _ => False) ∧ ∀ base : Heap, K.In base → base.Ns mainGlobals mg → (∀ p ∈ cs, LamX.TabB base mg p.1 p.2) → FnG l.prog w K mg base (L2.CX l.prog w) 14 fa fd ["_law_script"] sp := by
  have e := hfa.symm.trans (PySem.W.mg_of X G a34)
  cases e
  have F0 := fun_mk (st := s__law_dice) l0 c0 k0
  have b0 := F0.binds (ps := ["_law_script", "_law_spot"]) fun _ _ _ _ _ _ us hl => match us, hl with | [_, _], _ => rfl
  have F1 := fun_mk (st := s__law_roll) l1 c1 k1
  have b1 := F1.binds (ps := ["_law_dice_here", "_law_most"]) fun _ _ _ _ _ _ us hl => match us, hl with | [_, _], _ => rfl
  have F2 := fun_mk (st := s__law_pick) l2 c2 k2
  have b2 := F2.binds (ps := ["_law_dice_here", "_law_items"]) fun _ _ _ _ _ _ us hl => match us, hl with | [_, _], _ => rfl
  have F3 := fun_mk (st := s_has_word) l3 c3 k3
  have b3 := F3.binds (ps := ["value", "words"]) fun _ _ _ _ _ _ us hl => match us, hl with | [_, _], _ => rfl
  have F4 := fun_mk (st := s_has_signs) l4 c4 k4
  have b4 := F4.binds (ps := ["value", "signs", "most"]) fun _ _ _ _ _ _ us hl => match us, hl with | [_, _, _], _ => rfl
  have F5 := fun_mk (st := s_is_key) l5 c5 k5
  have b5 := F5.binds (ps := ["value"]) fun _ _ _ _ _ _ us hl => match us, hl with | [_], _ => rfl
  have F6 := fun_mk (st := s_is_integer) l6 c6 k6
  have b6 := F6.binds (ps := ["value"]) fun _ _ _ _ _ _ us hl => match us, hl with | [_], _ => rfl
  have F7 := fun_mk (st := s_is_from) l7 c7 k7
  have b7 := F7.binds (ps := ["value", "least", "most"]) fun _ _ _ _ _ _ us hl => match us, hl with | [_, _, _], _ => rfl
  have F8 := fun_mk (st := s_is_value) l8 c8 k8
  have b8 := F8.binds (ps := ["value"]) fun _ _ _ _ _ _ us hl => match us, hl with | [_], _ => rfl
  have F9 := fun_mk (st := s_is_whole) l9 c9 k9
  have b9 := F9.binds (ps := ["value"]) fun _ _ _ _ _ _ us hl => match us, hl with | [_], _ => rfl
  have F10 := fun_mk (st := s_is_addend) l10 c10 k10
  have b10 := F10.binds (ps := ["value"]) fun _ _ _ _ _ _ us hl => match us, hl with | [_], _ => rfl
  have F11 := fun_mk (st := s_is_value_or_none) l11 c11 k11
  have b11 := F11.binds (ps := ["value"]) fun _ _ _ _ _ _ us hl => match us, hl with | [_], _ => rfl
  have F12 := fun_mk (st := s_is_lot_deed) l12 c12 k12
  have b12 := F12.binds (ps := ["value"]) fun _ _ _ _ _ _ us hl => match us, hl with | [_], _ => rfl
  have F13 := fun_mk (st := s_is_lot) l13 c13 k13
  have b13 := F13.binds (ps := ["value"]) fun _ _ _ _ _ _ us hl => match us, hl with | [_], _ => rfl
  have F14 := fun_mk (st := s_is_house) l14 c14 k14
  have b14 := F14.binds (ps := ["value"]) fun _ _ _ _ _ _ us hl => match us, hl with | [_], _ => rfl
  have F15 := fun_mk (st := s_is_circle) l15 c15 k15
  have b15 := F15.binds (ps := ["value"]) fun _ _ _ _ _ _ us hl => match us, hl with | [_], _ => rfl
  have F16 := fun_mk (st := s_is_deed) l16 c16 k16
  have b16 := F16.binds (ps := ["value"]) fun _ _ _ _ _ _ us hl => match us, hl with | [_], _ => rfl
  have F17 := fun_mk (st := s_are_pairs) l17 c17 k17
  have b17 := F17.binds (ps := ["value"]) fun _ _ _ _ _ _ us hl => match us, hl with | [_], _ => rfl
  have F18 := fun_mk (st := s_require_pairs) l18 c18 k18
  have b18 := F18.binds (ps := ["value"]) fun _ _ _ _ _ _ us hl => match us, hl with | [_], _ => rfl
  have F19 := fun_mk (st := s_require_deed) l19 c19 k19
  have b19 := F19.binds (ps := ["value"]) fun _ _ _ _ _ _ us hl => match us, hl with | [_], _ => rfl
  have F20 := fun_mk (st := s_with_key) l20 c20 k20
  have b20 := F20.binds (ps := ["pairs", "key", "value"]) fun _ _ _ _ _ _ us hl => match us, hl with | [_, _, _], _ => rfl
  have F21 := fun_mk (st := s_put_in) l21 c21 k21
  have b21 := F21.binds (ps := ["pairs", "key", "value", "answer"]) fun _ _ _ _ _ _ us hl => match us, hl with | [_, _, _, _], _ => rfl
  have F22 := fun_mk (st := s_added_in) l22 c22 k22
  have b22 := F22.binds (ps := ["pairs", "key", "number"]) fun _ _ _ _ _ _ us hl => match us, hl with | [_, _, _], _ => rfl
  have F23 := fun_mk (st := s_are_same) l23 c23 k23
  have b23 := F23.binds (ps := ["one", "other"]) fun _ _ _ _ _ _ us hl => match us, hl with | [_, _], _ => rfl
  have F24 := fun_mk (st := s_lot_deed_in) l24 c24 k24
  have b24 := F24.binds (ps := ["pairs", "deed"]) fun _ _ _ _ _ _ us hl => match us, hl with | [_, _], _ => rfl
  have F25 := fun_mk (st := s_does_bar) l25 c25 k25
  have b25 := F25.binds (ps := ["answer"]) fun _ _ _ _ _ _ us hl => match us, hl with | [_], _ => rfl
  have F26 := fun_mk (st := s_lot_in) l26 c26 k26
  have b26 := F26.binds (ps := ["pairs", "lot"]) fun _ _ _ _ _ _ us hl => match us, hl with | [_, _], _ => rfl
  have F27 := fun_mk (st := s_done_in) l27 c27 k27
  have b27 := F27.binds (ps := ["pairs", "deed"]) fun _ _ _ _ _ _ us hl => match us, hl with | [_, _], _ => rfl
  have F28 := fun_mk (st := s_ascending_pairs) l28 c28 k28
  have b28 := F28.binds (ps := ["pairs"]) fun _ _ _ _ _ _ us hl => match us, hl with | [_], _ => rfl
  have F29 := fun_mk (st := s_done) l29 c29 k29
  have b29 := F29.binds (ps := ["pairs", "deed"]) fun _ _ _ _ _ _ us hl => match us, hl with | [_, _], _ => rfl
  have F30 := fun_mk (st := s_run_deeds) l30 c30 k30
  have b30 := F30.binds (ps := ["pairs", "deeds"]) fun _ _ _ _ _ _ us hl => match us, hl with | [_, _], _ => rfl
  have F31 := fun_mk (st := s_is_read) l31 c31 k31
  have b31 := F31.binds (ps := ["deed"]) fun _ _ _ _ _ _ us hl => match us, hl with | [_], _ => rfl
  have F32 := fun_mk (st := s_keys_of) l32 c32 k32
  have b32 := F32.binds (ps := ["deed"]) fun _ _ _ _ _ _ us hl => match us, hl with | [_], _ => rfl
  have F33 := fun_mk (st := s__law_right) l33 c33 k33
  have b33 := F33.binds (ps := ["_law_dice_here"]) fun _ _ _ _ _ _ us hl => match us, hl with | [_], _ => rfl
  have F34 := fun_mk (st := s_law) l34 c34 k34
  have T : Tx K mg := ⟨PySem.W.mg_none_of X G z0, PySem.W.mg_none_of X G z1, PySem.W.mg_none_of X G z2, PySem.W.mg_none_of X G z3, PySem.W.mg_none_of X G z4, PySem.W.mg_none_of X G z5, PySem.W.mg_none_of X G z6, PySem.W.mg_none_of X G z7, PySem.W.mg_none_of X G z8, PySem.W.mg_none_of X G z9, PySem.W.mg_none_of X G z10, PySem.W.mg_none_of X G z11, PySem.W.mg_none_of X G z12, PySem.W.mg_none_of X G z13, PySem.W.mg_none_of X G z14, ⟨V.ref ta0, _, PySem.W.mg_of X G gc0, rfl, fun F => (gt_mk gl0 (by simp [sizeLine_eq]) (.cons (show RelV (V.str "put") (Value.str "put" t0_0) from ⟨_, rfl⟩) (.cons (show RelV (V.str "drop") (Value.str "drop" t0_1) from ⟨_, rfl⟩) (.cons (show RelV (V.str "get") (Value.str "get" t0_2) from ⟨_, rfl⟩) (.cons (show RelV (V.str "add") (Value.str "add" t0_3) from ⟨_, rfl⟩) (.cons (show RelV (V.str "swap") (Value.str "swap" t0_4) from ⟨_, rfl⟩) (.cons (show RelV (V.str "list") (Value.str "list" t0_5) from ⟨_, rfl⟩) (.cons (show RelV (V.str "all") (Value.str "all" t0_6) from ⟨_, rfl⟩) (.cons (show RelV (V.str "circle") (Value.str "circle" t0_7) from ⟨_, rfl⟩) (.nil))))))))) (fun F => .cons (.str _) (.cons (.str _) (.cons (.str _) (.cons (.str _) (.cons (.str _) (.cons (.str _) (.cons (.str _) (.cons (.str _) (.nil))))))))) F)⟩, ⟨_, PySem.W.mg_of X G gc1⟩, ⟨_, PySem.W.mg_of X G gc2⟩, ⟨V.ref ta3, _, PySem.W.mg_of X G gc3, rfl, fun F => (gt_mk gl3 (by simp [sizeLine_eq]) (.cons (show RelV (V.str "put") (Value.str "put" t3_0) from ⟨_, rfl⟩) (.cons (show RelV (V.str "drop") (Value.str "drop" t3_1) from ⟨_, rfl⟩) (.cons (show RelV (V.str "get") (Value.str "get" t3_2) from ⟨_, rfl⟩) (.cons (show RelV (V.str "add") (Value.str "add" t3_3) from ⟨_, rfl⟩) (.cons (show RelV (V.str "swap") (Value.str "swap" t3_4) from ⟨_, rfl⟩) (.nil)))))) (fun F => .cons (.str _) (.cons (.str _) (.cons (.str _) (.cons (.str _) (.cons (.str _) (.nil)))))) F)⟩, ⟨_, PySem.W.mg_of X G gc4⟩, ⟨_, PySem.W.mg_of X G gc5⟩, ⟨_, PySem.W.mg_of X G gc6⟩, ⟨_, PySem.W.mg_of X G gc7⟩, ⟨_, PySem.W.mg_of X G gc8⟩, ⟨_, PySem.W.mg_of X G gc9⟩, ⟨_, PySem.W.mg_of X G gc10⟩, ⟨V.ref ta11, _, PySem.W.mg_of X G gc11, rfl, fun F => (gt_mk gl11 (by simp [sizeLine_eq]) (.cons (show RelV (V.str "get") (Value.str "get" t11_0) from ⟨_, rfl⟩) (.cons (show RelV (V.str "list") (Value.str "list" t11_1) from ⟨_, rfl⟩) (.nil))) (fun F => .cons (.str _) (.cons (.str _) (.nil))) F)⟩, ⟨V.ref ta12, _, PySem.W.mg_of X G gc12, rfl, fun F => (gt_mk gl12 (by simp [sizeLine_eq]) (.cons (show RelV (V.ref ta12_0) (Value.ref ta12_0) from rfl) (.cons (show RelV (V.ref ta12_1) (Value.ref ta12_1) from rfl) (.cons (show RelV (V.ref ta12_2) (Value.ref ta12_2) from rfl) (.nil)))) (fun F => .cons (gt_mk gl12_0 (by simp [sizeLine_eq]) (.cons (show RelV (V.str "kind") (Value.str "kind" t12_0_0) from ⟨_, rfl⟩) (.nil)) (fun F => .cons (.str _) (.nil)) F) (.cons (gt_mk gl12_1 (by simp [sizeLine_eq]) (.cons (show RelV (V.str "bound") (Value.str "bound" t12_1_0) from ⟨_, rfl⟩) (.nil)) (fun F => .cons (.str _) (.nil)) F) (.cons (gt_mk gl12_2 (by simp [sizeLine_eq]) (.cons (show RelV (V.str "full") (Value.str "full" t12_2_0) from ⟨_, rfl⟩) (.nil)) (fun F => .cons (.str _) (.nil)) F) (.nil)))) F)⟩, ⟨_, PySem.W.mg_of X G gc13⟩, ⟨_, PySem.W.mg_of X G gc14⟩, fun p hp => by
    simp only [GEN.XL, List.mem_cons, List.not_mem_nil, or_false] at hp
    rcases hp with rfl | rfl | rfl | rfl
    · exact xm_InvalidDeed_InvalidState
    · exact xm_InvalidDeed_InvalidDeed
    · exact xm_InvalidState_InvalidState
    · exact xm_InvalidState_InvalidDeed, PySem.W.mg_of X G xg_InvalidDeed, PySem.W.mg_of X G xg_InvalidState, ⟨⟨_, _, _, _, PySem.F.excBase_ValueError, xe_InvalidDeed⟩, xk_InvalidDeed, xs_InvalidDeed, xt_InvalidDeed⟩, ⟨⟨_, _, _, _, PySem.F.excBase_ValueError, xe_InvalidState⟩, xk_InvalidState, xs_InvalidState, xt_InvalidState⟩, ⟨_, _, PySem.W.mg_of X G a_m_law_met, fun_mk (st := s__law_met) l_m_law_met c_m_law_met k_m_law_met, (fun_mk (st := s__law_met) l_m_law_met c_m_law_met k_m_law_met).binds (ps := ["_law_call"]) fun _ _ _ _ _ _ us hl => match us, hl with | [_], _ => rfl⟩⟩
  refine ⟨PySem.W.fnOf "law" "law" (defArgs s_law) (defBody s_law) (defScope s_law) .none kV34 dc34 pm34 an34 (.ref O_law) ct34, [(O_law, P_law), (O__law_right, P__law_right)], lift K SP.law, (List.forall_mem_cons.mpr ⟨tb_law, (List.forall_mem_cons.mpr ⟨tb__law_right, (fun _ h => nomatch h)⟩)⟩), (List.forall_mem_cons.mpr ⟨np_law, (List.forall_mem_cons.mpr ⟨np__law_right, (fun _ h => nomatch h)⟩)⟩), (List.forall_mem_cons.mpr ⟨PySem.W.codeHd_of_K X hd_law, (List.forall_mem_cons.mpr ⟨PySem.W.codeHd_of_K X hd__law_right, (fun _ h => nomatch h)⟩)⟩), fun s v => .of_eq rfl, fun H0 a ns hl hH hS => law_spT (T := TABS) (List.forall_mem_cons.mpr ⟨hH (O_law, P_law) List.mem_cons_self, (List.forall_mem_cons.mpr ⟨hH (O__law_right, P__law_right) (List.mem_cons_of_mem _ List.mem_cons_self), (fun _ h => nomatch h)⟩)⟩) hS ⟨ns, rfl, hl, SP.tg0, fun _ => rfl⟩, fun base _ _ TB => ?_⟩
  have TB_law := TB (O_law, P_law) List.mem_cons_self
  have TB__law_right := TB (O__law_right, P__law_right) (List.mem_cons_of_mem _ List.mem_cons_self)
  have D__law_dice : Def l.prog w K mg base "_law_dice" 1 SP.dice := def__law_dice T  F0 (PySem.W.mg_of X G a0) b0
  have D__law_roll : Def l.prog w K mg base "_law_roll" 1 SP.roll := def__law_roll T  F1 (PySem.W.mg_of X G a1) b1
  have D__law_pick : Def l.prog w K mg base "_law_pick" 2 SP.pick := def__law_pick T D__law_roll F2 (PySem.W.mg_of X G a2) b2
  have D_has_word : Def l.prog w K mg base "has_word" 1 SP.has_word := def_has_word T  F3 (PySem.W.mg_of X G a3) b3
  have D_has_signs : Def l.prog w K mg base "has_signs" 1 SP.has_signs := def_has_signs T  F4 (PySem.W.mg_of X G a4) b4
  have D_is_key : Def l.prog w K mg base "is_key" 2 SP.is_key := def_is_key T D_has_signs F5 (PySem.W.mg_of X G a5) b5
  have D_is_integer : Def l.prog w K mg base "is_integer" 1 SP.is_integer := def_is_integer T  F6 (PySem.W.mg_of X G a6) b6
  have D_is_from : Def l.prog w K mg base "is_from" 2 SP.is_from := def_is_from T D_is_integer F7 (PySem.W.mg_of X G a7) b7
  have D_is_value : Def l.prog w K mg base "is_value" 3 SP.is_value := def_is_value T D_is_from D_has_signs F8 (PySem.W.mg_of X G a8) b8
  have D_is_whole : Def l.prog w K mg base "is_whole" 1 SP.is_whole := def_is_whole T  F9 (PySem.W.mg_of X G a9) b9
  have D_is_addend : Def l.prog w K mg base "is_addend" 2 SP.is_addend := def_is_addend T D_is_whole F10 (PySem.W.mg_of X G a10) b10
  have D_is_value_or_none : Def l.prog w K mg base "is_value_or_none" 4 SP.is_value_or_none := def_is_value_or_none T D_is_value F11 (PySem.W.mg_of X G a11) b11
  have D_is_lot_deed : Def l.prog w K mg base "is_lot_deed" 5 SP.is_lot_deed := def_is_lot_deed T D_has_word D_is_key D_is_value D_is_addend D_is_value_or_none F12 (PySem.W.mg_of X G a12) b12
  have D_is_lot : Def l.prog w K mg base "is_lot" 6 SP.is_lot := def_is_lot T D_is_lot_deed F13 (PySem.W.mg_of X G a13) b13
  have D_is_house : Def l.prog w K mg base "is_house" 3 SP.is_house := def_is_house T D_is_from F14 (PySem.W.mg_of X G a14) b14
  have D_is_circle : Def l.prog w K mg base "is_circle" 4 SP.is_circle := def_is_circle T D_is_house F15 (PySem.W.mg_of X G a15) b15
  have D_is_deed : Def l.prog w K mg base "is_deed" 7 SP.is_deed := def_is_deed T D_is_lot_deed D_has_word D_is_key D_is_lot D_is_circle F16 (PySem.W.mg_of X G a16) b16
  have D_are_pairs : Def l.prog w K mg base "are_pairs" 4 SP.are_pairs := def_are_pairs T D_is_key D_is_value F17 (PySem.W.mg_of X G a17) b17
  have D_require_pairs : Def l.prog w K mg base "require_pairs" 5 SP.require_pairs := def_require_pairs T D_are_pairs F18 (PySem.W.mg_of X G a18) b18
  have D_require_deed : Def l.prog w K mg base "require_deed" 8 SP.require_deed := def_require_deed T D_is_deed F19 (PySem.W.mg_of X G a19) b19
  have D_with_key : Def l.prog w K mg base "with_key" 1 SP.with_key := def_with_key T  F20 (PySem.W.mg_of X G a20) b20
  have D_put_in : Def l.prog w K mg base "put_in" 2 SP.put_in := def_put_in T D_with_key F21 (PySem.W.mg_of X G a21) b21
  have D_added_in : Def l.prog w K mg base "added_in" 3 SP.added_in := def_added_in T D_put_in D_is_whole D_is_addend F22 (PySem.W.mg_of X G a22) b22
  have D_are_same : Def l.prog w K mg base "are_same" 2 SP.are_same := def_are_same T D_is_whole F23 (PySem.W.mg_of X G a23) b23
  have D_lot_deed_in : Def l.prog w K mg base "lot_deed_in" 4 SP.lot_deed_in := def_lot_deed_in T D_put_in D_added_in D_are_same F24 (PySem.W.mg_of X G a24) b24
  have D_does_bar : Def l.prog w K mg base "does_bar" 1 SP.does_bar := def_does_bar T  F25 (PySem.W.mg_of X G a25) b25
  have D_lot_in : Def l.prog w K mg base "lot_in" 5 SP.lot_in := def_lot_in T D_lot_deed_in D_does_bar F26 (PySem.W.mg_of X G a26) b26
  have D_done_in : Def l.prog w K mg base "done_in" 6 SP.done_in := def_done_in T D_lot_deed_in D_lot_in F27 (PySem.W.mg_of X G a27) b27
  have D_ascending_pairs : Def l.prog w K mg base "ascending_pairs" 1 SP.ascending_pairs := def_ascending_pairs T  F28 (PySem.W.mg_of X G a28) b28
  have D_done : Def l.prog w K mg base "done" 9 SP.done := def_done T D_require_pairs D_require_deed D_done_in D_ascending_pairs F29 (PySem.W.mg_of X G a29) b29
  have D_run_deeds : Def l.prog w K mg base "run_deeds" 8 SP.run_deeds := def_run_deeds T D_require_pairs D_ascending_pairs D_done_in D_is_deed F30 (PySem.W.mg_of X G a30) b30
  have D_is_read : Def l.prog w K mg base "is_read" 9 SP.is_read := def_is_read T D_require_deed F31 (PySem.W.mg_of X G a31) b31
  have D_keys_of : Def l.prog w K mg base "keys_of" 9 SP.keys_of := def_keys_of T D_require_deed F32 (PySem.W.mg_of X G a32) b32
  have D__law_right : Def l.prog w K mg base "_law_right" 13 SP.right := def__law_right T TB__law_right D__law_pick D_is_deed D_done D_run_deeds D_is_read D_keys_of F33 rfl (PySem.W.mg_of X G a33) b33
  exact fn_law T TB_law D__law_dice D__law_right D_done D_run_deeds F34 rfl
end ALL
open PySem PySem.W PyProof.Rows
set_option maxHeartbeats 0 in
theorem PySem.Challenge.cw_halvesmeet_k07_errors_of_deeds_holds : PySem.Challenge.rw_halvesmeet_k07_errors_of_deeds.Holds := by
  w_on; o_law; k_head; (case hw => w_witness2)
  k_fill
  refine DL.walk_TG (l := PySem.Challenge.rw_halvesmeet_k07_errors_of_deeds) (n := 63) (k := 14) (x := "_law_script") (CX := fun w => L2.CX (PySem.Challenge.rw_halvesmeet_k07_errors_of_deeds).prog w) rfl (by decide) rfl ⟨rfl, by decide, by decide⟩ (fun w h Y => PySem.W.km_in_of Y) ?F (fun _ _ _ _ _ h => DL.cx_none h)
  case F =>
    intro w mg fa h Y KX G hmg
    have hT8 := PySem.W.km_tabs_of Y
    clear Y
    refine' ALL.all_mk KX G hmg ?a0 ?l0 ?c0 ?k0 ?a1 ?l1 ?c1 ?k1 ?a2 ?l2 ?c2 ?k2 ?a3 ?l3 ?c3 ?k3 ?a4 ?l4 ?c4 ?k4 ?a5 ?l5 ?c5 ?k5 ?a6 ?l6 ?c6 ?k6 ?a7 ?l7 ?c7 ?k7 ?a8 ?l8 ?c8 ?k8 ?a9 ?l9 ?c9 ?k9 ?a10 ?l10 ?c10 ?k10 ?a11 ?l11 ?c11 ?k11 ?a12 ?l12 ?c12 ?k12 ?a13 ?l13 ?c13 ?k13 ?a14 ?l14 ?c14 ?k14 ?a15 ?l15 ?c15 ?k15 ?a16 ?l16 ?c16 ?k16 ?a17 ?l17 ?c17 ?k17 ?a18 ?l18 ?c18 ?k18 ?a19 ?l19 ?c19 ?k19 ?a20 ?l20 ?c20 ?k20 ?a21 ?l21 ?c21 ?k21 ?a22 ?l22 ?c22 ?k22 ?a23 ?l23 ?c23 ?k23 ?a24 ?l24 ?c24 ?k24 ?a25 ?l25 ?c25 ?k25 ?a26 ?l26 ?c26 ?k26 ?a27 ?l27 ?c27 ?k27 ?a28 ?l28 ?c28 ?k28 ?a29 ?l29 ?c29 ?k29 ?a30 ?l30 ?c30 ?k30 ?a31 ?l31 ?c31 ?k31 ?a32 ?l32 ?c32 ?k32 ?a33 ?l33 ?c33 ?k33 ?a34 ?l34 ?c34 ?k34 ?z0 ?z1 ?z2 ?z3 ?z4 ?z5 ?z6 ?z7 ?z8 ?z9 ?z10 ?z11 ?z12 ?z13 ?z14 ?gl0 ?gc0 ?gc1 ?gc2 ?gl3 ?gc3 ?gc4 ?gc5 ?gc6 ?gc7 ?gc8 ?gc9 ?gc10 ?gl11 ?gc11 ?gl12_0 ?gl12_1 ?gl12_2 ?gl12 ?gc12 ?gc13 ?gc14 ?xm_InvalidDeed_InvalidState ?xm_InvalidDeed_InvalidDeed ?xm_InvalidState_InvalidState ?xm_InvalidState_InvalidDeed ?xg_InvalidDeed ?xg_InvalidState ?xe_InvalidDeed ?xk_InvalidDeed ?xs_InvalidDeed ?xt_InvalidDeed ?xe_InvalidState ?xk_InvalidState ?xs_InvalidState ?xt_InvalidState ?a_m_law_met ?l_m_law_met ?c_m_law_met ?k_m_law_met ?hd_law ?np_law ?tb_law ?hd__law_right ?np__law_right ?tb__law_right
    (case a0 => k_is); (case l0 => k_is); (case c0 => k_is); (case k0 => k_is); (case a1 => k_is); (case l1 => k_is); (case c1 => k_is); (case k1 => k_is); (case a2 => k_is); (case l2 => k_is); (case c2 => k_is); (case k2 => k_is); (case a3 => k_is); (case l3 => k_is); (case c3 => k_is); (case k3 => k_is); (case a4 => k_is); (case l4 => k_is); (case c4 => k_is); (case k4 => k_is); (case a5 => k_is); (case l5 => k_is); (case c5 => k_is); (case k5 => k_is); (case a6 => k_is); (case l6 => k_is); (case c6 => k_is); (case k6 => k_is); (case a7 => k_is); (case l7 => k_is); (case c7 => k_is); (case k7 => k_is); (case a8 => k_is); (case l8 => k_is); (case c8 => k_is); (case k8 => k_is); (case a9 => k_is); (case l9 => k_is); (case c9 => k_is); (case k9 => k_is); (case a10 => k_is); (case l10 => k_is); (case c10 => k_is); (case k10 => k_is); (case a11 => k_is); (case l11 => k_is); (case c11 => k_is); (case k11 => k_is); (case a12 => k_is); (case l12 => k_is); (case c12 => k_is); (case k12 => k_is); (case a13 => k_is); (case l13 => k_is); (case c13 => k_is); (case k13 => k_is); (case a14 => k_is); (case l14 => k_is); (case c14 => k_is); (case k14 => k_is); (case a15 => k_is); (case l15 => k_is); (case c15 => k_is); (case k15 => k_is); (case a16 => k_is); (case l16 => k_is); (case c16 => k_is); (case k16 => k_is); (case a17 => k_is); (case l17 => k_is); (case c17 => k_is); (case k17 => k_is); (case a18 => k_is); (case l18 => k_is); (case c18 => k_is); (case k18 => k_is); (case a19 => k_is); (case l19 => k_is); (case c19 => k_is); (case k19 => k_is); (case a20 => k_is); (case l20 => k_is); (case c20 => k_is); (case k20 => k_is); (case a21 => k_is); (case l21 => k_is); (case c21 => k_is); (case k21 => k_is); (case a22 => k_is); (case l22 => k_is); (case c22 => k_is); (case k22 => k_is); (case a23 => k_is); (case l23 => k_is); (case c23 => k_is); (case k23 => k_is); (case a24 => k_is); (case l24 => k_is); (case c24 => k_is); (case k24 => k_is); (case a25 => k_is); (case l25 => k_is); (case c25 => k_is); (case k25 => k_is); (case a26 => k_is); (case l26 => k_is); (case c26 => k_is); (case k26 => k_is); (case a27 => k_is); (case l27 => k_is); (case c27 => k_is); (case k27 => k_is); (case a28 => k_is); (case l28 => k_is); (case c28 => k_is); (case k28 => k_is); (case a29 => k_is); (case l29 => k_is); (case c29 => k_is); (case k29 => k_is); (case a30 => k_is); (case l30 => k_is); (case c30 => k_is); (case k30 => k_is); (case a31 => k_is); (case l31 => k_is); (case c31 => k_is); (case k31 => k_is); (case a32 => k_is); (case l32 => k_is); (case c32 => k_is); (case k32 => k_is); (case a33 => k_is); (case l33 => k_is); (case c33 => k_is); (case k33 => k_is); (case a34 => k_is); (case l34 => k_is); (case c34 => k_is); (case k34 => k_is); (case z0 => k_is); (case z1 => k_is); (case z2 => k_is); (case z3 => k_is); (case z4 => k_is); (case z5 => k_is); (case z6 => k_is); (case z7 => k_is); (case z8 => k_is); (case z9 => k_is); (case z10 => k_is); (case z11 => k_is); (case z12 => k_is); (case z13 => k_is); (case z14 => k_is); (case gc0 => k_is); (case gl0 => k_is); (case gc1 => k_is); (case gc2 => k_is); (case gc3 => k_is); (case gl3 => k_is); (case gc4 => k_is); (case gc5 => k_is); (case gc6 => k_is); (case gc7 => k_is); (case gc8 => k_is); (case gc9 => k_is); (case gc10 => k_is); (case gc11 => k_is); (case gl11 => k_is); (case gc12 => k_is); (case gl12 => k_is); (case gl12_2 => k_is); (case gl12_1 => k_is); (case gl12_0 => k_is); (case gc13 => k_is); (case gc14 => k_is); (case xg_InvalidDeed => k_is); (case xg_InvalidState => k_is); (case xk_InvalidDeed => k_is); (case xs_InvalidDeed => k_is); (case xt_InvalidDeed => k_is); (case xk_InvalidState => k_is); (case xs_InvalidState => k_is); (case xt_InvalidState => k_is); (case a_m_law_met => k_is); (case l_m_law_met => k_is); (case c_m_law_met => k_is); (case k_m_law_met => k_is)
    (case xm_InvalidDeed_InvalidState => kernel_rfl); (case xm_InvalidDeed_InvalidDeed => kernel_rfl); (case xm_InvalidState_InvalidState => kernel_rfl); (case xm_InvalidState_InvalidDeed => kernel_rfl); (case xe_InvalidDeed => kernel_rfl); (case xe_InvalidState => kernel_rfl); (case hd_law => kernel_rfl); (case np_law => kernel_rfl); (case tb_law => exact hT8 GEN.P_law (by decide)); (case hd__law_right => kernel_rfl); (case np__law_right => kernel_rfl); (case tb__law_right => exact hT8 GEN.P__law_right (by decide))

