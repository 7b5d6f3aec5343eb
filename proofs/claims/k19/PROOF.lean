import PyProof.Rows.All
import Wide.All
import OpenK.AllK
import Wide.FinOn
import PyProof.EqAt
import PyProof.EqKinds
import PyProof.TupleCall
import PyProof.ReprRoads
import HandS.ForMost
import HandS.Exc
import HandS.TryOnly
import HandS.ExcOwn
import HandS.WordsExc
import HandS.EndBits
import HandS.Wide
import HandS.IsInst
import HandS.Flow
import HandS.Style
import HandS.RaiseMore
import HandS.Steps
import HandS.Conv
import HandS.More
import HandS.Deep
import HandS.SortInts
import HandS.SortKw
import HandS.Zip
import PyProof.ReprLen
import HandS.DictComp
import HandS.ExcCtx
import KE.KExcIs
import HandS.ExcInit
import HandS.ClsMeth
import HandS.Hot
import HandS.Comp
import PySem.Challenge.RW_stickyheads_k19_invalid_arguments_of_vie
set_option Elab.async false
set_option linter.all false
set_option maxRecDepth 100000
set_option maxHeartbeats 4000000
set_option exponentiation.threshold 2000
/-! Hz, part A: calls of defs where it is known that no repr is under way. -/
namespace Hz
open PySem PySem.Spec PyProof.Rows L2 RZ

/-- room for k calls; no repr is under way -/
structure RoomG (k : Nat) (A : Around) : Prop where
  rm : Room k A
  gd : A.guards = some []
theorem RoomG.mono {j k : Nat} {A : Around} (r : RoomG k A) (h : j ≤ k) : RoomG j A := ⟨r.rm.mono h, r.gd⟩
theorem RoomG.deeper {k : Nat} {A : Around} (r : RoomG (k + 1) A) (env : Env) : RoomG k (A.deeper env) := ⟨r.rm.deeper env, r.gd⟩

/-- a def keeps its promise wherever no repr is under way -/
structure FnG (P : Program) (w : World) (K : PySem.W.Frag) (mg : Str → Option Value) (base : Heap) (CX : CXT) (k : Nat) (f : Addr) (fd : FuncData) (ps : List Str) (sp : Sp) : Prop where
  len : ∀ vs H Q E, sp vs H Q E → vs.length = ps.length
  run : ∀ (A : Around) (outer : List Env) (s : Shared) (H : Hp) (args : Args) (us : List Value) (vs : List V) (Q : VK) (E : XK),
    RoomG k A → Env0 P w K mg base A outer s H → BindsTo s fd args (ps.zip us) → Vals vs us → sp vs H Q E →
      codeAny (model P w) A (.call (.ref f) args) (CR CX outer P w H s Q E) s
theorem FnG.mono {P : Program} {w : World} {K : PySem.W.Frag} {mg : Str → Option Value} {base : Heap} {CX : CXT} {j k : Nat} {f : Addr} {fd : FuncData} {ps : List Str} {sp : Sp}
    (F : FnG P w K mg base CX j f fd ps sp) (h : j ≤ k) : FnG P w K mg base CX k f fd ps sp :=
  ⟨F.len, fun A o s H a us vs Q E r => F.run A o s H a us vs Q E (r.mono h)⟩

/-- by its body -/
theorem fnG_of {CX : CXT} {P : Program} {w : World} {K : PySem.W.Frag} {mg : Str → Option Value} {base : Heap} {k : Nat} {f : Addr} {name qual : Str}
    {params : Arguments} {body : List Stmt} {scope : Scope} {dV kV doc pm cdv ct oc : Value} {an od : Option Addr} {osl : Array (Option Value)} {N ps : List Str} {sp : Sp}
    (lk : K.lookup f = some ⟨oc, od, .func (PySem.W.fnOf name qual params body scope dV kV doc pm an cdv ct), osl⟩)
    (hcd : PySem.W.codeIn K cdv qual = true) (S : FnScope N ps scope) (len : ∀ vs H Q E, sp vs H Q E → vs.length = ps.length)
    (hbody : ∀ (A : Around) (outer : List Env) (s : Shared) (H : Hp) (vs : List V) (Q : VK) (E : XK),
      RoomG k (A.deeper (envOfC qual scope s.heap.objs.size f cdv)) → sp vs H Q E →
      ∃ t, PSs (cxOf CX P w K mg base N qual scope f cdv A outer s H E) body t ∧ t { nx := fun _ H' => Q .non H', rt := Q } (start N vs) H) :
    FnG P w K mg base CX (k + 1) f (PySem.W.fnOf name qual params body scope dV kV doc pm an cdv ct) ps sp := by
  refine ⟨len, fun A outer s H args us vs Q E hr e0 hb r hsp => ?_⟩
  have hl := len _ _ _ _ hsp
  have inK : K.In s.heap := e0.mod.kin.keeps fun b o e => (e0.bs b o e).1
  have lim : s.heap.NoLimit := e0.mod.nolimit.keeps fun b o e => (e0.bs b o e).1
  have kinds : ∀ y ∈ ps.zip us, scope.names.lookup y.1 = some .local ∨ (scope.names.lookup y.1 = some .cell ∧ ((cellsFrom (s.heap.objs.size + 1) scope.names []).lookup y.1).isSome = true) := by
    rintro ⟨n, v⟩ hy
    rcases S.par n (List.of_mem_zip hy).1 with q | q
    · exact .inl q
    · exact .inr ⟨q, PySem.W.cellsFrom_some _ _ _ (.inl q)⟩
  refine codeAny_call_function hr.rm.depth (inK _ _ lk) rfl S.co S.gen rfl (PySem.W.codeRec_of inK hcd) (hb _ _ _ _ ?_)
  refine wpAny_newFunctionEnv_cells S.kind kinds fun env he s1 x => ?_
  subst he
  refine ⟨lim.keeps x.toInCall.keep, codeAny_func ?_⟩
  obtain ⟨t, ht, hq⟩ := hbody A outer s H vs Q E (hr.deeper _) hsp
  have I : Inv (cxOf CX P w K mg base N qual scope f cdv A outer s H E) [] (start N vs) H s1 := inv_start S hr.rm.hd e0 hl r x
  refine wpAny_mono (ht.run [] s1 (start N vs) H _ I hq) (fun fl s' hs => ?_) fun e s' hs => hs
  cases fl with
  | ret u =>
    obtain ⟨v, σ', H', J, rv, q⟩ := hs
    exact ⟨v, H', J.os, J.bare, J.base, J.hok, rv, q⟩
  | next =>
    obtain ⟨σ', H', J, q⟩ := hs
    exact ⟨.non, H', J.os, J.bare, J.base, J.hok, rfl, q⟩
  | brk => obtain ⟨_, _, _, q⟩ := hs; exact q.elim
  | cont => obtain ⟨_, _, _, q⟩ := hs; exact q.elim

section
variable {P : Program} {w : World} {K : PySem.W.Frag} {mg : Str → Option Value} {base : Heap}
theorem FunOkG {CX : CXT} {x qual : Str} {st : Stmt} {f : Addr} {fd : FuncData} {N ps : List Str} {k : Nat} {sp : Sp} (F : Fun K x qual st f fd) (S : FnScope N ps (defScope st))
    (len : ∀ vs H Q E, sp vs H Q E → vs.length = ps.length)
    (hbody : ∀ (cdv : Value) (A : Around) (outer : List Env) (s : Shared) (H : Hp) (vs : List V) (Q : VK) (E : XK), RoomG k (A.deeper (envOfC qual (defScope st) s.heap.objs.size f cdv)) → sp vs H Q E →
      ∃ t, PSs (cxOf CX P w K mg base N qual (defScope st) f cdv A outer s H E) (defBody st) t ∧ t { nx := fun _ H' => Q .non H', rt := Q } (start N vs) H) : FnG P w K mg base CX (k + 1) f fd ps sp := by
  obtain ⟨oc, od, kV, doc, pm, an, cdv, ct, osl, rfl, lk, hcd⟩ := F.ex
  exact fnG_of lk hcd S len fun A outer s H vs Q E hr hsp => hbody cdv A outer s H vs Q E hr hsp
end

/-! ### calls -/
/-- the def's object in the fragment -/
def LK (K : PySem.W.Frag) (f : Addr) (fd : FuncData) : Prop := ∃ (oc : Value) (od : Option Addr) (osl : Array (Option Value)), K.lookup f = some ⟨oc, od, .func fd, osl⟩
theorem _root_.L2.Fun.lk {K : PySem.W.Frag} {x qual : Str} {st : Stmt} {f : Addr} {fd : FuncData} (F : Fun K x qual st f fd) : LK K f fd := by
  obtain ⟨oc, od, kV, doc, pm, an, cdv, ct, osl, rfl, lk, hcd⟩ := F.ex
  exact ⟨oc, od, osl, lk⟩
/-- a def of the module, by its name: it is there, its parameters bind, it keeps its promise -/
def Ok (P : Program) (w : World) (K : PySem.W.Frag) (mg : Str → Option Value) (base : Heap) (CX : CXT) (k : Nat) (x : Str) (ps : List Str) (sp : Sp) : Prop :=
  ∃ (f : Addr) (fd : FuncData), mg x = some (.ref f) ∧ PySem.W.keepIn K (.ref f) = true ∧ Binds K fd ps [] ∧ FnG P w K mg base CX k f fd ps sp ∧ LK K f fd
theorem Ok.mono {P : Program} {w : World} {K : PySem.W.Frag} {mg : Str → Option Value} {base : Heap} {CX : CXT} {j k : Nat} {x : Str} {ps : List Str} {sp : Sp} (F : Ok P w K mg base CX j x ps sp) (h : j ≤ k) : Ok P w K mg base CX k x ps sp := by
  obtain ⟨f, fd, a, b, c, d, e⟩ := F
  exact ⟨f, fd, a, b, c, d.mono h, e⟩
section
variable {X : Cx} {CX : CXT} {k : Nat} {f : Addr} {fd : FuncData} {ps : List Str} {sp : Sp} {E : L2.St → XK} {x : Str} {p pos : Pos} {e : Expr} {es : List Expr} {t : TA}
theorem runG {pins : List (Addr × Obj)} {σ : L2.St} {H : Hp} {s : Shared} {Q : VK} {us : List Value} {vs : List V} (F : FnG X.prog X.w X.K X.mg X.base CX k f fd ps sp) (hr : RoomG k X.A)
    (hb : Binds X.K fd ps []) (hx : PassesAt CX X σ (E σ)) (I : Inv X pins σ H s) (r : Vals vs us) (h : sp vs H Q (E σ)) :
    wpAny (model X.prog X.w) X.A (call (.ref f) us) (EP X pins σ Q) X.xe s := by
  have hl : us.length = ps.length := r.length.symm.trans (F.len _ _ _ _ h)
  have b : BindsTo s fd ⟨us, []⟩ (ps.zip us) := by
    have b := hb s us I.kIn (by rw [List.append_nil, hl])
    rw [List.append_nil] at b
    exact b
  refine wpAny_call (codeAny_mono (F.run X.A X.stack s H ⟨us, []⟩ us vs Q (E σ) hr I.env0 b r h) fun res s' hq => ?_)
  match res, hq with
  | .error e, hq => exact hx pins H s e s' I hq
  | .ok (.ret u), hq => exact I.after hq
  | .ok .next, hq => exact hq.elim
  | .ok .brk, hq => exact hq.elim
  | .ok .cont, hq => exact hq.elim
/-- f(e, ..) -/
theorem pe_callG (F : Ok X.prog X.w X.K X.mg X.base CX k x ps sp) (hr : RoomG k X.A) (hx : ∀ σ, PassesAt CX X σ (E σ)) (ha : PA X (e :: es) t) (hg : Gl X x := by rfl)
    (hdb : (x == ("__debug__" : Str)) = false := by decide) (he : starEach (e :: es) X.env = (false, eval e X.env) :: starEach es X.env := by rfl)
    (hpl : (backTo pos (starEach es X.env)).any (·.1) = false := by rfl) : PE X (.Call (.Name x p) (e :: es) [] pos) (tCallS sp E t) := by
  obtain ⟨f, fd, hm, hk, hb, F, _⟩ := F
  refine ⟨fun pins s σ H Q I h => wpAny_Call_Name_kw (ld_glob I hg hm (PySem.W.callWith_K (h₀ := X.base) I.ok.mod.kin hk ?_ he hpl) hdb)⟩
  exact thn (ha.run pos pins s σ H _ I h) fun us s1 ⟨vs, H1, I1, r, q⟩ => ⟨I1.kIn, runG F hr hb (hx σ) I1 r q⟩
/-- f() -/
theorem pe_callG0 (F : Ok X.prog X.w X.K X.mg X.base CX k x ps sp) (hr : RoomG k X.A) (hx : ∀ σ, PassesAt CX X σ (E σ)) (hg : Gl X x := by rfl)
    (hdb : (x == ("__debug__" : Str)) = false := by decide) : PE X (.Call (.Name x p) [] [] pos) (tCallS sp E tNil) := by
  obtain ⟨f, fd, hm, hk, hb, F, _⟩ := F
  exact ⟨fun pins s σ H Q I h => wpAny_Call_Name_kw (ld_glob I hg hm (PySem.W.callWith_K0 I.kIn hk (runG (us := []) F hr hb (hx σ) I .nil h)) hdb)⟩
/-- no exception leaves the callee -/
theorem pas0 {X : Cx} (σ : L2.St) : PassesAt CX0 X σ (fun _ _ _ => False) := fun _ _ _ _ _ _ h => h.elim
end

/-! ### repr -/
section
variable {X : Cx}
/-- repr(x), x data at any depth -/
def rRepr (K : PySem.W.Frag) : List V → Hp → VK → Prop := fun xs H Q => ∃ x d, xs = [x] ∧ Dp K H x d ∧ d.showable = true ∧ d.depth < 60 ∧ d.shown.length ≤ sizeLine ∧ Q (.str d.shown) H
mutual
theorem dp_noDict {K : PySem.W.Frag} {H : Hp} : ∀ {v : V} {d : PyData}, Dp K H v d → d.hasDict = false
  | _, _, .non => by simp only [PyData.hasDict]
  | _, _, .bl _ => by simp only [PyData.hasDict]
  | _, _, .int _ => by simp only [PyData.hasDict]
  | _, _, .str _ => by simp only [PyData.hasDict]
  | _, _, .lst _ h => by simp only [PyData.hasDict]; exact dpAll_noDict h
  | _, _, .tup _ h => by simp only [PyData.hasDict]; exact dpAll_noDict h
theorem dpAll_noDict {K : PySem.W.Frag} {H : Hp} : ∀ {vs : List V} {ds : List PyData}, DpAll K H vs ds → PyData.hasDictAll ds = false
  | _, _, .nil => by simp only [PyData.hasDictAll]
  | _, _, .cons h r => by simp only [PyData.hasDictAll, dp_noDict h, dpAll_noDict r, Bool.or_false]
end
theorem call_repr (gd : X.A.guards = some []) (hu : X.A.units + 64 < cLine) : CallR X (.builtin "repr") (rRepr X.K) := by
  intro pins s σ H xs us Q I r h
  obtain ⟨x, d, rfl, hd, hs, hk, hz, q⟩ := h
  obtain ⟨u, rfl, ru⟩ := vals1 r
  obtain ⟨as, rd⟩ := Dp.reads I d x u hd ru
  have nd := PyData.noDict_hsm (as := as) (dp_noDict hd)
  cases hd with
  | non =>
    cases (show u = Value.none from ru)
    exact PySem.P.repr_of_none ⟨.str _, H, I.tok _, ⟨_, rfl⟩, by simpa only [PyData.shown] using q⟩
  | bl b =>
    cases (show u = Value.bool b from ru)
    exact PySem.P.repr_of_bool ⟨.str _, H, I.tok _, ⟨_, rfl⟩, by simpa only [PyData.shown] using q⟩
  | int i =>
    obtain ⟨t, rfl⟩ := ru
    exact PySem.P.repr_of_int (by simpa [PyData.showable] using hs) ⟨.str _, H, I.tok _, ⟨_, rfl⟩, by simpa only [PyData.shown] using q⟩
  | str y =>
    obtain ⟨t, rfl⟩ := ru
    exact PySem.P.repr_of_str ⟨.str _, H, I.tok _, ⟨_, rfl⟩, by simpa only [PyData.shown] using q⟩ (by simpa only [PyData.shown] using hz)
  | lst _ _ =>
    cases (show u = Value.ref _ from ru)
    exact repr_of_reads' rd hs nd gd (by omega) (fun _ _ e => e) (fun h' u tk hk => ⟨.str _, H, I.kept hk, ⟨_, rfl⟩, q⟩) hz
  | tup _ _ =>
    cases (show u = Value.ref _ from ru)
    exact repr_of_reads' rd hs nd gd (by omega) (fun _ _ e => e) (fun h' u tk hk => ⟨.str _, H, I.kept hk, ⟨_, rfl⟩, q⟩) hz
end
/-- the law's own list: known by its object, or written -/
def ScrL (K : PySem.W.Frag) (H : Hp) (a : Addr) (xs : List V) : Prop := ∃ its : List Value, Vals xs its ∧ xs.length ≤ sizeLine ∧
  (H a = some (.frz { cls := .type "list", data := .seq its.toArray } (.lst xs)) ∨ K.lookup a = some { cls := .type "list", data := .seq its.toArray })
theorem ScrL.sq {K : PySem.W.Frag} {H : Hp} {a : Addr} {xs : List V} (h : ScrL K H a xs) : SqL K H a xs := by
  obtain ⟨its, r, z, h | h⟩ := h
  · exact .inl (.inr ⟨_, h⟩)
  · have e := r.length
    exact .inr ⟨_, its.toArray, _, h, rfl, rfl, rfl, by simp; omega, by simpa using r⟩
theorem ScrL.obj {X : Cx} {pins : List (Addr × Obj)} {σ : L2.St} {H : Hp} {s : Shared} {a : Addr} {xs : List V} (I : Inv X pins σ H s) (h : ScrL X.K H a xs) : ∃ its : List Value, Vals xs its ∧ s.heap.get? a = some { cls := .type "list", data := .seq its.toArray } := by
  obtain ⟨its, r, z, h | h⟩ := h
  · obtain ⟨e, _⟩ := I.hok a _ h
    exact ⟨its, r, e⟩
  · exact ⟨its, r, I.kIn a _ h⟩
/-- list + list, the left one the law's own -/
def rCatS (K : PySem.W.Frag) : R2 := fun x y H Q => ∃ l b xs zs, x = .ref l ∧ y = .ref b ∧ ScrL K H l xs ∧ H b = some (.lst zs) ∧ xs.length + zs.length ≤ sizeLine ∧ ∀ p, H p = none → Q (.ref p) (upd H p (.lst (xs ++ zs)))
theorem op_catS {X : Cx} : OpR X (binaryOp .Add) (rCatS X.K) := by
  intro pins s σ H x y v u Q I rx ry h
  obtain ⟨l, b, xs, zs, rfl, rfl, hS, hB, hz, q⟩ := h
  cases rx
  cases ry
  obtain ⟨its, r, e⟩ := ScrL.obj I hS
  obtain ⟨_, its2, n2, r2, hl2, e2⟩ := I.lstM hB
  have hl := r.length
  refine PySem.P.add_list e e2 ?_ (by rw [List.size_toArray, List.size_toArray]; omega)
  rw [show its.toArray ++ its2.toArray = (its ++ its2).toArray by simp]
  exact ⟨.ref _, _, I.lnew (t' := s.toks) (r.append r2) (by rw [List.length_append]; omega), rfl, q _ I.fresh⟩
end Hz

/-! Hz, the end of a law: from the promise of the law's def to the claim. -/
namespace Hz
open PySem PySem.Spec PyProof.Rows L2 RZ

/-- what is tracked at the law's entry: the script alone (by its object), or nothing -/
def entryHp (a : Addr) (o : Obj) (xs : List V) (own : Bool) : Hp := fun b => if own = true ∧ b = a then some (.frz o (.lst xs)) else none

theorem law_runs {P : Program} {w : World} {K : PySem.W.Frag} {mg mb : Str → Option Value} {CX : CXT} {k : Nat} {fa a : Addr} {name x : Str} {sp : Sp} {s₁ : Shared} {vs : List Value} {ns : List Int}
    (inK : K.In s₁.heap) (hns : s₁.heap.Ns mainGlobals mg) (hb : s₁.heap.Ns builtinsNs mb) (hbb : ∀ x : Str, x ≠ "__name__" → mb x = bootBuiltins x) (hlim : s₁.heap.NoLimit)
    (hg : s₁.gens = #[]) (ha : s₁.heap.get? a = some { cls := .type "list", data := .seq vs.toArray }) (hi : IntsAre vs ns) (hl : ns.length ≤ sizeLine) (hr : RoomG k callerA)
    (hfa : mg name = some (.ref fa)) (F : ∀ base : Heap, K.In base → base.Ns mainGlobals mg → Ok P w K mg base CX k name [x] sp)
    (hsp : ∀ H : Hp, Only H → ScrL K H a (ns.map V.int) → sp [.ref a] H (fun v _ => v = .bl true) fun _ _ _ => False) (hCX : ∀ H e s', CX [] H s₁ (fun _ _ _ => False) e s' → False) :
    codeAny (model P w) callerA (.call (.ref fa) ⟨[.ref a], []⟩) (fun r s' => r = .ok (.ret (.bool true)) ∧ OldK s₁.heap s'.heap ∧ s'.os = s₁.os ∧ AllBare s'.gens) s₁ := by
  have rv := vals_ints hi
  -- H: the abstract heap at the entry
  have main : ∀ H : Hp, Only H → ScrL K H a (ns.map V.int) → HOk P w H s₁.heap → (∀ b, H b ≠ none → b = a) → (H a ≠ none → K.lookup a = none) →
      codeAny (model P w) callerA (.call (.ref fa) ⟨[.ref a], []⟩) (fun r s' => r = .ok (.ret (.bool true)) ∧ OldK s₁.heap s'.heap ∧ s'.os = s₁.os ∧ AllBare s'.gens) s₁ := by
    intro H only sq hok onlyA apart
    have off : ∀ {b : Addr} {o : Obj}, s₁.heap.get? b = some o → (∀ w n, o.data ≠ .seq w n) → H b = none := by
      intro b o e nd
      cases q : H b with
      | none => rfl
      | some u =>
        obtain rfl := onlyA b (by rw [q]; simp)
        rw [ha] at e
        cases e
        exact absurd rfl (nd _ _)
    have ns' : ∀ {b : Addr} {m : Str → Option Value}, s₁.heap.Ns b m → (hidT s₁.heap H).Ns b m := by
      rintro b m ⟨o, es, ep, e, d, r⟩
      exact ⟨o, es, ep, hidT_get e (off e fun w n z => by rw [d] at z; cases z), d, r⟩
    have kb : K.In (hidT s₁.heap H) := by
      intro b o e
      refine hidT_get (inK b o e) ?_
      cases q : H b with
      | none => rfl
      | some u =>
        have z := onlyA b (by rw [q]; simp)
        rw [z] at q e
        have z2 := apart (by rw [q]; simp)
        rw [z2] at e
        cases e
    have md : Mod K mg (hidT s₁.heap H) := ⟨kb, ns' hns, ⟨mb, ns' hb, hbb⟩, let ⟨mc, h1, h2⟩ := hlim; ⟨mc, ns' h1, h2⟩⟩
    have noF : ∀ b, b ∉ frs [] := fun b z => by cases z
    have e0 : Env0 P w K mg (hidT s₁.heap H) callerA [] s₁ H := ⟨rfl, md, fun b o e => of_hidT e, Nat.le_of_eq (hidT_size _ _), trivial, fun b z => (noF b z).elim, hok, .of_eq hg⟩
    obtain ⟨f, fd, hf, _, hb, G, _⟩ := F _ kb (ns' hns)
    rw [hfa] at hf
    cases hf
    refine codeAny_mono (G.run callerA [] s₁ H ⟨[.ref a], []⟩ [.ref a] [.ref a] _ _ hr e0 (hb s₁ [.ref a] inK rfl) (.cons rfl .nil) (hsp H only sq)) fun r s' h => ?_
    match r, h with
    | .error e, h => exact (hCX H e s' h).elim
    | .ok .next, h => exact h.elim
    | .ok .brk, h => exact h.elim
    | .ok .cont, h => exact h.elim
    | .ok (.ret u), h =>
      obtain ⟨v, H', os, bare, un, hok', rv', q⟩ := h
      obtain rfl : v = .bl true := q
      obtain rfl : u = Value.bool true := rv'
      refine ⟨rfl, OldK.of_keep fun b o e => ?_, os, bare⟩
      cases q : H b with
      | none => exact un.keep b o e q (noF b) (by simp)
      | some t =>
        rcases only b with z | ⟨ob, xs, z⟩
        · rw [q] at z; cases z
        · obtain ⟨e1, _⟩ := hok b _ z
          obtain ⟨e2, _⟩ := hok' b _ (un.frzs b ob _ z)
          rw [e] at e1
          cases e1
          exact e2
  have vsz := hi.length
  cases hk : K.lookup a with
  | some o =>
    have e := inK a o hk
    rw [ha] at e
    cases e
    refine main (fun _ => none) (fun _ => .inl rfl) ⟨vs, rv, by rw [List.length_map]; exact hl, .inr hk⟩ (fun b u z => by cases (show (none : Option HO) = some u from z)) (fun b z => absurd rfl z) fun z => absurd rfl z
  | none =>
    have at_ : entryHp a { cls := .type "list", data := .seq vs.toArray } (ns.map V.int) true a = some (.frz { cls := .type "list", data := .seq vs.toArray } (.lst (ns.map V.int))) := by
      unfold entryHp; simp
    have else_ : ∀ b, b ≠ a → entryHp a { cls := .type "list", data := .seq vs.toArray } (ns.map V.int) true b = none := fun b hb => by
      unfold entryHp; simp [hb]
    refine main (entryHp a { cls := .type "list", data := .seq vs.toArray } (ns.map V.int) true) (fun b => ?_) ⟨vs, rv, by rw [List.length_map]; exact hl, .inl at_⟩ (fun b u z => ?_) (fun b z => ?_) fun _ => hk
    · by_cases hb : b = a
      · subst hb; exact .inr ⟨_, _, at_⟩
      · exact .inl (else_ b hb)
    · by_cases hb : b = a
      · subst hb
        rw [at_] at z
        cases z
        exact ⟨ha, by rw [List.length_map]; exact hl, vs, _, rv, ha⟩
      · rw [else_ b hb] at z; cases z
    · exact Decidable.byContradiction fun hb => z (else_ b hb)

/-- the claim, from the promise of the law's def; the bits of the script's ints are told -/
theorem walkG {l : PySem.W.OpenLaw} {n k : Nat} {q : Program} {loose : List Str} {XP : (Str → Option Value) → Heap → Prop} {YP : World → Heap → Prop} {d : DefRec} {K : Params → PySem.W.Frag} {CX : World → CXT} {sp : World → Sp} {x : Str}
    (hn : l.most = some n) (hn2 : n ≤ sizeLine) (hdf : d.params.defaults = []) (hr : RoomG k callerA) (hY : ∀ (w : World) (h : Heap), YP w h → (K w.params).In h)
    (F : ∀ (w : World) (mg : Str → Option Value) (fa : Addr) (h : Heap), (K w.params).In h → h.Ns mainGlobals mg → mg d.name = some (.ref fa) →
      ∀ base : Heap, (K w.params).In base → base.Ns mainGlobals mg → Ok l.prog w (K w.params) mg base (CX w) k d.name [x] (sp w))
    (hsp : ∀ (w : World) (H : Hp) (a : Addr) (ns : List Int), ns.length ≤ n → (∀ z ∈ ns, Builtin.Int.intBits z ≤ 1048576) → Only H → ScrL (K w.params) H a (ns.map V.int) → sp w [.ref a] H (fun v _ => v = .bl true) fun _ _ _ => False)
    (hCX : ∀ (w : World) (H : Hp) (s : Shared) (e : Value) (s' : Shared), CX w [] H s (fun _ _ _ => False) e s' → False) :
    PySem.W.WalkO q loose XP YP l.row.toRowW d [] (fun f vs => PySem.call f vs) := by
  refine Att.attach_callB hn hdf fun w s₀ s₁ mg mb fa o pm cd doc a vs ns G Y ho hd hcd hmg hobj hints hlen hbits hg => ?_
  have inK := hY w _ Y
  have ok := F w mg fa _ inK G.T.g hmg
  exact law_runs inK G.T.g G.T.b G.T.builtins G.T.nolimit hg hobj hints (Nat.le_trans hlen hn2) hr hmg ok (fun H hO hS => hsp w H a ns hlen hbits hO hS) fun H e s' => hCX w H s₁ e s'
end Hz

/-! Hz, part B: what is known of the heap as a ledger; readings walked from the left. -/
namespace Hz
open PySem PySem.Spec PyProof.Rows L2 RZ
abbrev SS := L2.St
abbrev Lg := List (Addr × HO)
/-- the heap holds the ledger; no address twice -/
structure Led (H : Hp) (L : Lg) : Prop where
  has : ∀ p ∈ L, H p.1 = some p.2
  nd : (L.map (·.1)).Nodup
/-- (a, o) stands in L, R is the rest -/
inductive Pick (a : Addr) (o : HO) : Lg → Lg → Prop where
  | head {R : Lg} : Pick a o ((a, o) :: R) R
  | tail {x : Addr × HO} {L R : Lg} : Pick a o L R → Pick a o (x :: L) (x :: R)
/-- M is part of L -/
inductive Sub : Lg → Lg → Prop where
  | refl {L : Lg} : Sub L L
  | drop {x : Addr × HO} {L M : Lg} : Sub L M → Sub (x :: L) M
  | take {a : Addr} {o : HO} {L R M : Lg} : Pick a o L R → Sub R M → Sub L ((a, o) :: M)
theorem Pick.perm {a : Addr} {o : HO} {L R : Lg} (h : Pick a o L R) : L.Perm ((a, o) :: R) := by
  induction h with
  | head => exact .refl _
  | tail _ ih => exact (ih.cons _).trans (.swap _ _ _)
theorem Led.perm {H : Hp} {L M : Lg} (l : Led H L) (p : L.Perm M) : Led H M :=
  ⟨fun x hx => l.has x (p.mem_iff.mpr hx), (p.map (·.1)).nodup_iff.mp l.nd⟩
theorem Led.pick {H : Hp} {a : Addr} {o : HO} {L R : Lg} (l : Led H L) (p : Pick a o L R) : Led H ((a, o) :: R) := l.perm p.perm
theorem Led.get {H : Hp} {a : Addr} {o : HO} {L R : Lg} (l : Led H L) (p : Pick a o L R) : H a = some o := (l.pick p).has (a, o) (.head _)
theorem Led.tail {H : Hp} {x : Addr × HO} {L : Lg} (l : Led H (x :: L)) : Led H L :=
  ⟨fun p hp => l.has p (.tail _ hp), (List.nodup_cons.mp l.nd).2⟩
theorem Led.put {H : Hp} {a : Addr} {o o' : HO} {R : Lg} (l : Led H ((a, o) :: R)) : Led (upd H a o') ((a, o') :: R) := by
  have n := (List.nodup_cons.mp l.nd).1
  refine ⟨fun p hp => ?_, l.nd⟩
  rcases List.mem_cons.mp hp with rfl | hp
  · exact upd_same
  · rw [upd_ne (fun e => n (List.mem_map.mpr ⟨p, hp, e⟩))]
    exact l.has p (.tail _ hp)
theorem Led.new {H : Hp} {p : Addr} {o : HO} {L : Lg} (l : Led H L) (h : H p = none) : Led (upd H p o) ((p, o) :: L) := by
  have ne : ∀ q ∈ L, q.1 ≠ p := fun q hq e => by
    have z := l.has q hq
    rw [e, h] at z
    cases z
  refine ⟨fun q hq => ?_, List.nodup_cons.mpr ⟨fun hm => ?_, l.nd⟩⟩
  · rcases List.mem_cons.mp hq with rfl | hq
    · exact upd_same
    · rw [upd_ne (ne q hq)]
      exact l.has q hq
  · obtain ⟨q, hq, e⟩ := List.mem_map.mp hm
    exact ne q hq e
theorem Led.cons {H : Hp} {a : Addr} {o : HO} {R M : Lg} (l : Led H ((a, o) :: R)) (s : ∀ x ∈ M.map (·.1), x ∈ R.map (·.1)) (m : Led H M) : Led H ((a, o) :: M) :=
  ⟨fun p hp => (List.mem_cons.mp hp).elim (fun e => by rw [e]; exact l.has _ (.head _)) (m.has p), List.nodup_cons.mpr ⟨fun h => (List.nodup_cons.mp l.nd).1 (s _ h), m.nd⟩⟩
theorem Sub.mem {L M : Lg} (s : Sub L M) : ∀ x ∈ M, x ∈ L := by
  induction s with
  | refl => exact fun _ h => h
  | drop _ ih => exact fun x h => .tail _ (ih x h)
  | take p _ ih =>
    intro x h
    rcases List.mem_cons.mp h with rfl | h
    · exact p.perm.mem_iff.mpr (.head _)
    · exact p.perm.mem_iff.mpr (.tail _ (ih x h))
theorem Led.sub {H : Hp} {L M : Lg} (l : Led H L) (s : Sub L M) : Led H M := by
  induction s with
  | refl => exact l
  | drop _ ih => exact ih l.tail
  | take p s ih =>
    refine (l.pick p).cons (fun x hx => ?_) (ih (l.pick p).tail)
    obtain ⟨q, hq, e⟩ := List.mem_map.mp hx
    exact List.mem_map.mpr ⟨q, s.mem q hq, e⟩
theorem Led.nil {H : Hp} : Led H [] := ⟨fun _ h => (nomatch h), List.nodup_nil⟩

/-- from every heap that holds L -/
def Tr (L : Lg) (G : Hp → Prop) : Prop := ∀ H, Led H L → G H
theorem Tr.of {L : Lg} {G : Hp → Prop} {H : Hp} (t : Tr L G) (l : Led H L) : G H := t H l
theorem Tr.sub {L M : Lg} {G : Hp → Prop} (t : Tr M G) (s : Sub L M) : Tr L G := fun H l => t H (l.sub s)
theorem Tr.pick {a : Addr} {o : HO} {L R : Lg} {G : Hp → Prop} (p : Pick a o L R) (t : Tr ((a, o) :: R) G) : Tr L G := fun H l => t H (l.pick p)

/-- the slot i of σ becomes x -/
inductive SetAt : SS → Nat → Option V → SS → Prop where
  | zero {x y : Option V} {r : SS} : SetAt (y :: r) 0 x (x :: r)
  | succ {i : Nat} {x y : Option V} {r r' : SS} : SetAt r i x r' → SetAt (y :: r) (i + 1) x (y :: r')
theorem SetAt.eq {σ σ' : SS} {i : Nat} {x : Option V} (h : SetAt σ i x σ') : σ.set i x = σ' := by
  induction h with
  | zero => rfl
  | succ _ ih => rw [List.set_cons_succ, ih]

/-- None -/
def isNon : V → Bool
  | .non => true
  | _ => false
theorem isNon_dec (x : V) : decide (x = .non) = isNon x := by cases x <;> first | rfl | exact decide_eq_false (fun h => nomatch h)
section
variable {L R : Lg} {σ σ' : SS} {Q : VK} {QB : Bool → Hp → Prop} {QA : List V → Hp → Prop} {G : Hp → Prop} {K : PySem.W.Frag} {ta tb tc te tl : TE} {t u : TT} {tr : TA} {v x y : V} {i : Nat} {a p : Addr} {xs : List V}
/-! ### expressions -/
theorem t_var (h : σ[i]? = some (some v)) (k : Tr L fun H => Q v H) : Tr L fun H => tVar i σ H Q := fun H l => ⟨v, h, k H l⟩
theorem t_c (k : Tr L fun H => Q v H) : Tr L fun H => tC v σ H Q := k
theorem t_op {r : R2} (k : Tr L fun H => ta σ H fun x H1 => tb σ H1 fun y H2 => r x y H2 Q) : Tr L fun H => tOp r ta tb σ H Q := k
theorem t_un {r : V → Hp → VK → Prop} (k : Tr L fun H => ta σ H fun x H1 => r x H1 Q) : Tr L fun H => tUn r ta σ H Q := k
theorem t_rI {C : Int → Int → Prop} {g : Int → Int → V} {m n : Int} (hc : C m n) (k : Tr L fun H => Q (g m n) H) : Tr L fun H => rI C g (.int m) (.int n) H Q := fun H l => ⟨m, n, rfl, rfl, hc, k H l⟩
theorem t_rI0 {g : Int → Int → V} {m n : Int} (k : Tr L fun H => Q (g m n) H) : Tr L fun H => rI0 g (.int m) (.int n) H Q := fun H l => ⟨m, n, rfl, rfl, k H l⟩
theorem t_rU {g : Int → V} {m : Int} (k : Tr L fun H => Q (g m) H) : Tr L fun H => rU g (.int m) H Q := fun H l => ⟨m, rfl, k H l⟩
theorem dec_int (m n : Int) : decide (V.int m = V.int n) = decide (m = n) := by simp
theorem dec_bl (m n : Bool) : decide (V.bl m = V.bl n) = (m == n) := by cases m <;> cases n <;> rfl
theorem dec_str (m n : Str) : decide (V.str m = V.str n) = decide (m = n) := by simp
theorem t_eqI {m n : Int} (k : Tr L fun H => Q (.bl (decide (m = n))) H) : Tr L fun H => rEq (.int m) (.int n) H Q := fun H l => ⟨rfl, by rw [dec_int]; exact k H l⟩
theorem t_eqB {m n : Bool} (k : Tr L fun H => Q (.bl (m == n)) H) : Tr L fun H => rEq (.bl m) (.bl n) H Q := fun H l => ⟨rfl, by rw [dec_bl]; exact k H l⟩
theorem t_eqS {m n : Str} (k : Tr L fun H => Q (.bl (decide (m = n))) H) : Tr L fun H => rEq (.str m) (.str n) H Q := fun H l => ⟨rfl, by rw [dec_str]; exact k H l⟩
theorem t_eq (hs : scal x y = true) (k : Tr L fun H => Q (.bl (decide (x = y))) H) : Tr L fun H => rEq x y H Q := fun H l => ⟨hs, k H l⟩
theorem t_neI {m n : Int} (k : Tr L fun H => Q (.bl (!decide (m = n))) H) : Tr L fun H => rNe (.int m) (.int n) H Q := fun H l => ⟨rfl, by rw [dec_int]; exact k H l⟩
theorem t_neB {m n : Bool} (k : Tr L fun H => Q (.bl (!(m == n))) H) : Tr L fun H => rNe (.bl m) (.bl n) H Q := fun H l => ⟨rfl, by rw [dec_bl]; exact k H l⟩
theorem t_neS {m n : Str} (k : Tr L fun H => Q (.bl (!decide (m = n))) H) : Tr L fun H => rNe (.str m) (.str n) H Q := fun H l => ⟨rfl, by rw [dec_str]; exact k H l⟩
theorem t_ne (hs : scal x y = true) (k : Tr L fun H => Q (.bl (!decide (x = y))) H) : Tr L fun H => rNe x y H Q := fun H l => ⟨hs, k H l⟩
theorem t_isN (k : Tr L fun H => Q (.bl (isNon x)) H) : Tr L fun H => rIsN x .non H Q := fun H l => ⟨rfl, by rw [isNon_dec]; exact k H l⟩
theorem t_notN (k : Tr L fun H => Q (.bl (!isNon x)) H) : Tr L fun H => rNotN x .non H Q := fun H l => ⟨rfl, by rw [isNon_dec]; exact k H l⟩
/-- a chain a < b < c -/
theorem t_chain {r r' : R2} (k : Tr L fun H => ta σ H fun x H1 => tb σ H1 fun y H2 => r x y H2 fun z H3 => ∃ k, z = .bl k ∧ (if k = true then tc σ H3 fun w' H4 => r' y w' H4 Q else Q (.bl false) H3)) : Tr L fun H => tChain r r' ta tb tc σ H Q := k
/-! ### tests -/
theorem t_test (k : Tr L fun H => te σ H fun x H1 => ∃ c, x = .bl c ∧ QB c H1) : Tr L fun H => tTest te σ H QB := k
theorem t_B (k : Tr L fun H => te σ H fun x H1 => ∃ c, x = .bl c ∧ QB c H1) : Tr L fun H => tB te σ H QB := k
theorem t_bl {b : Bool} {G : Bool → Hp → Prop} (k : Tr L fun H => G b H) : Tr L fun H => ∃ c, V.bl b = .bl c ∧ G c H := fun H l => ⟨b, rfl, k H l⟩
theorem t_and (k : Tr L fun H => t σ H fun c H1 => if c = true then u σ H1 QB else QB false H1) : Tr L fun H => tAnd t u σ H QB := k
theorem t_or (k : Tr L fun H => t σ H fun c H1 => if c = true then QB true H1 else u σ H1 QB) : Tr L fun H => tOr t u σ H QB := k
theorem t_not (k : Tr L fun H => t σ H fun c H1 => QB (!c) H1) : Tr L fun H => tNot t σ H QB := k
theorem t_andV (k : Tr L fun H => ta σ H fun x H1 => ∃ c, x = .bl c ∧ if c = true then tb σ H1 Q else Q (.bl false) H1) : Tr L fun H => tAndV ta tb σ H Q := k
theorem t_orV (k : Tr L fun H => ta σ H fun x H1 => ∃ c, x = .bl c ∧ if c = true then Q (.bl true) H1 else tb σ H1 Q) : Tr L fun H => tOrV ta tb σ H Q := k
theorem t_notV (k : Tr L fun H => ta σ H fun x H1 => ∃ c, x = .bl c ∧ Q (.bl (!c)) H1) : Tr L fun H => tNotV ta σ H Q := k
theorem t_ifE (k : Tr L fun H => t σ H fun c H1 => if c = true then ta σ H1 Q else tb σ H1 Q) : Tr L fun H => tIf t ta tb σ H Q := k
theorem t_ite {b : Bool} {G1 G2 : Hp → Prop} (h1 : b = true → Tr L G1) (h2 : b = false → Tr L G2) : Tr L fun H => if b = true then G1 H else G2 H := fun H l => by
  cases b with
  | true => rw [if_pos rfl]; exact h1 rfl H l
  | false => rw [if_neg Bool.false_ne_true]; exact h2 rfl H l
theorem t_iteD {c : Prop} [Decidable c] {G1 G2 : Hp → Prop} (h1 : c → Tr L G1) (h2 : ¬ c → Tr L G2) : Tr L fun H => if decide c = true then G1 H else G2 H :=
  t_ite (fun h => h1 (of_decide_eq_true h)) fun h => h2 (of_decide_eq_false h)
theorem t_iteND {c : Prop} [Decidable c] {G1 G2 : Hp → Prop} (h1 : ¬ c → Tr L G1) (h2 : c → Tr L G2) : Tr L fun H => if (!decide c) = true then G1 H else G2 H :=
  t_ite (fun h => h1 (by simpa using h)) fun h => h2 (by simpa using h)
theorem t_iteT {G1 G2 : Hp → Prop} (k : Tr L G1) : Tr L fun H => if true = true then G1 H else G2 H := fun H l => iteT (k H l)
theorem t_iteF {G1 G2 : Hp → Prop} (k : Tr L G2) : Tr L fun H => if false = true then G1 H else G2 H := fun H l => iteF (k H l)
theorem t_ifT {b : Bool} {G1 G2 : Hp → Prop} (h : b = true) (k : Tr L G1) : Tr L fun H => if b = true then G1 H else G2 H := t_ite (fun _ => k) fun h2 => absurd (h.symm.trans h2) (by decide)
theorem t_ifF {b : Bool} {G1 G2 : Hp → Prop} (h : b = false) (k : Tr L G2) : Tr L fun H => if b = true then G1 H else G2 H := t_ite (fun h2 => absurd (h2.symm.trans h) (by decide)) fun _ => k
/-! ### displays, arguments -/
theorem t_nil (k : Tr L fun H => QA [] H) : Tr L fun H => tNil σ H QA := k
theorem t_cons (k : Tr L fun H => ta σ H fun x H1 => tr σ H1 fun xs H2 => QA (x :: xs) H2) : Tr L fun H => tCons ta tr σ H QA := k
def newL (xs : List V) (H : Hp) (Q : VK) : Prop := xs.length ≤ sizeLine ∧ ∀ p, H p = none → Q (.ref p) (upd H p (.lst xs))
def newT (xs : List V) (H : Hp) (Q : VK) : Prop := xs.length ≤ sizeLine ∧ ∀ p, H p = none → Q (.ref p) (upd H p (.tup xs))
theorem t_lst (k : Tr L fun H => tr σ H fun xs H1 => newL xs H1 Q) : Tr L fun H => tLst tr σ H Q := k
theorem t_tup (k : Tr L fun H => tr σ H fun xs H1 => newT xs H1 Q) : Tr L fun H => tTup tr σ H Q := k
theorem t_newL (hz : xs.length ≤ sizeLine) (k : ∀ p, Tr ((p, .lst xs) :: L) fun H => Q (.ref p) H) : Tr L fun H => newL xs H Q := fun H l => ⟨hz, fun p hp => k p _ (l.new hp)⟩
theorem t_newT (hz : xs.length ≤ sizeLine) (k : ∀ p, Tr ((p, .tup xs) :: L) fun H => Q (.ref p) H) : Tr L fun H => newT xs H Q := fun H l => ⟨hz, fun p hp => k p _ (l.new hp)⟩
/-! ### calls -/
theorem t_callS {sp : Sp} {E : SS → XK} (k : Tr L fun H => tr σ H fun vs H1 => sp vs H1 Q (E σ)) : Tr L fun H => tCallS sp E tr σ H Q := k
theorem t_CB {r : List V → Hp → VK → Prop} (k : Tr L fun H => tr σ H fun vs H1 => r vs H1 Q) : Tr L fun H => tCB r tr σ H Q := k
theorem t_BM0 {T : String} {r : V → List V → Hp → VK → Prop} (k : Tr L fun H => te σ H fun x H1 => tyV K T x H1 ∧ r x [] H1 Q) : Tr L fun H => tBM0 K T r te σ H Q := k
theorem t_BM {T : String} {r : V → List V → Hp → VK → Prop} (k : Tr L fun H => te σ H fun x H1 => tyV K T x H1 ∧ tr σ H1 fun xs H2 => r x xs H2 Q) : Tr L fun H => tBM K T r te tr σ H Q := k
theorem t_tyL (hp : Pick p (.lst xs) L R) (k : Tr L G) : Tr L fun H => tyV K "list" (.ref p) H ∧ G H := fun H l => ⟨.inl ⟨rfl, xs, .inl (.inl (l.get hp))⟩, k H l⟩
theorem t_tyS {z : Str} (k : Tr L G) : Tr L fun H => tyV K "str" (.str z) H ∧ G H := fun H l => ⟨rfl, k H l⟩
theorem t_append (hp : Pick p (.lst xs) L R) (hz : xs.length < sizeLine) (k : Tr ((p, .lst (xs ++ [y])) :: R) fun H => Q .non H) : Tr L fun H => rAppend (.ref p) [y] H Q :=
  fun H l => ⟨p, xs, y, rfl, rfl, l.get hp, hz, k _ (l.pick hp).put⟩
theorem t_popM (hp : Pick p (.lst xs) L R) (hy : xs[xs.length - 1]? = some y) (k : Tr ((p, .lst xs.dropLast) :: R) fun H => Q y H) : Tr L fun H => rPop (.ref p) [] H Q :=
  fun H l => ⟨p, xs, y, rfl, rfl, l.get hp, hy, k _ (l.pick hp).put⟩
theorem t_reverse (hp : Pick p (.lst xs) L R) (k : Tr ((p, .lst xs.reverse) :: R) fun H => Q .non H) : Tr L fun H => rReverse (.ref p) [] H Q :=
  fun H l => ⟨p, xs, rfl, rfl, l.get hp, k _ (l.pick hp).put⟩
theorem t_clear (hp : Pick p (.lst xs) L R) (k : Tr ((p, .lst []) :: R) fun H => Q .non H) : Tr L fun H => rClear (.ref p) [] H Q :=
  fun H l => ⟨p, xs, rfl, rfl, l.get hp, k _ (l.pick hp).put⟩
/-! ### subscripts, slices -/
theorem sqL (hp : Pick p (.lst xs) L R) {H : Hp} (l : Led H L) : SqL K H p xs := .inl (.inl (l.get hp))
theorem sqT (hp : Pick p (.tup xs) L R) {H : Hp} (l : Led H L) : SqT K H p xs := .inl (.inl (l.get hp))
theorem t_ixL {m : Int} (hp : Pick p (.lst xs) L R) (ha : atI xs m = some v) (k : Tr L fun H => Q v H) : Tr L fun H => rIxL K (.ref p) (.int m) H Q := fun H l => ⟨p, xs, m, v, rfl, rfl, sqL hp l, ha, k H l⟩
theorem t_ixT {m : Int} (hp : Pick p (.tup xs) L R) (ha : atI xs m = some v) (k : Tr L fun H => Q v H) : Tr L fun H => rIxT K (.ref p) (.int m) H Q := fun H l => ⟨p, xs, m, v, rfl, rfl, sqT hp l, ha, k H l⟩
theorem t_ixS {z : Str} {m : Int} {c : Nat} (hz : z.length ≤ sizeLine) (ha : atI z.cps.toList m = some c) (k : Tr L fun H => Q (.str ⟨#[c]⟩) H) : Tr L fun H => rIxS (.str z) (.int m) H Q := fun H l => ⟨z, m, c, rfl, rfl, hz, ha, k H l⟩
theorem t_slice {r : V → Option Int → Option Int → Hp → VK → Prop} {lo hi : TO} (k : Tr L fun H => te σ H fun x H1 => lo σ H1 fun l H2 => hi σ H2 fun u H3 => r x l u H3 Q) : Tr L fun H => tSl r te lo hi σ H Q := k
theorem t_noPart {QO : Option Int → Hp → Prop} (k : Tr L fun H => QO none H) : Tr L fun H => tNoPart σ H QO := k
theorem t_part {QO : Option Int → Hp → Prop} (k : Tr L fun H => te σ H fun x H1 => ∃ i, x = .int i ∧ QO (some i) H1) : Tr L fun H => tPart te σ H QO := k
theorem t_int {m : Int} {G : Int → Hp → Prop} (k : Tr L fun H => G m H) : Tr L fun H => ∃ i, V.int m = .int i ∧ G i H := fun H l => ⟨m, rfl, k H l⟩
theorem t_slL {lo hi : Option Int} (hp : Pick a (.lst xs) L R) (k : ∀ p, Tr ((p, .lst (cutV xs lo hi)) :: L) fun H => Q (.ref p) H) : Tr L fun H => rSlL K (.ref a) lo hi H Q := fun H l => ⟨a, xs, rfl, sqL hp l, fun p hp' => k p _ (l.new hp')⟩
theorem t_cat {ys : List V} {R' : Lg} {b : Addr} (hp : Pick a (.lst xs) L R) (hq : Pick b (.lst ys) L R') (hz : xs.length + ys.length ≤ sizeLine) (k : ∀ p, Tr ((p, .lst (xs ++ ys)) :: L) fun H => Q (.ref p) H) :
    Tr L fun H => rCat (.ref a) (.ref b) H Q := fun H l => ⟨a, b, xs, ys, rfl, rfl, l.get hp, l.get hq, hz, fun p hp' => k p _ (l.new hp')⟩
theorem t_rep {m : Int} (hp : Pick a (.lst xs) L R) (h1 : -(2 ^ 63) ≤ m) (h2 : m < 2 ^ 63) (hz : xs.length * m.toNat ≤ sizeLine) (k : ∀ p, Tr ((p, .lst (List.replicate m.toNat xs).flatten) :: L) fun H => Q (.ref p) H) :
    Tr L fun H => rRep (.ref a) (.int m) H Q := fun H l => ⟨a, m, xs, rfl, rfl, l.get hp, h1, h2, hz, fun p hp' => k p _ (l.new hp')⟩
/-! ### statements -/
variable {D : Ends} {s1 s2 : TS} {g : TG}
theorem t_seq (k : Tr L fun H => s1 { D with nx := s2 D } σ H) : Tr L fun H => tSeq s1 s2 D σ H := k
theorem t_next (k : Tr L fun H => D.nx σ H) : Tr L fun H => tNext D σ H := k
theorem t_brk (k : Tr L fun H => D.bk σ H) : Tr L fun H => tBreak D σ H := k
theorem t_cnt (k : Tr L fun H => D.ct σ H) : Tr L fun H => tCont D σ H := k
theorem t_asg (k : Tr L fun H => te σ H fun x H1 => g x σ H1 D.nx) : Tr L fun H => tAsg te g D σ H := k
theorem t_name {Qn : SS → Hp → Prop} (hs : SetAt σ i (some v) σ') (k : Tr L fun H => Qn σ' H) : Tr L fun H => gName i v σ H Qn := fun H l => by
  show Qn (σ.set i (some v)) H
  rw [hs.eq]; exact k H l
theorem t_aug {ti : TIp} (h : σ[i]? = some (some x)) (k : Tr L fun H => te σ H fun y H1 => ti x y H1 fun z H2 => gName i z σ H2 D.nx) : Tr L fun H => tAug i te ti D σ H := fun H l => ⟨x, h, k H l⟩
theorem t_ipI {f : Int → Int → Int} {m n : Int} (k : Tr L fun H => Q (.int (f m n)) H) : Tr L fun H => ipI f (.int m) (.int n) H Q := fun H l => ⟨m, n, rfl, rfl, k H l⟩
theorem t_par {j : Nat} (k : Tr L fun H => tr σ H fun vs H1 => ∃ v w, vs = [v, w] ∧ gName i v σ H1 fun σ3 H3 => gName j w σ3 H3 D.nx) : Tr L fun H => tPar i j tr D σ H := k
theorem t_two {w : V} {G : V → V → Hp → Prop} (k : Tr L fun H => G v w H) : Tr L fun H => ∃ x y, [v, w] = [x, y] ∧ G x y H := fun H l => ⟨v, w, rfl, k H l⟩
theorem t_drop (k : Tr L fun H => te σ H fun _ H1 => D.nx σ H1) : Tr L fun H => tDrop te D σ H := k
theorem t_ret (k : Tr L fun H => te σ H D.rt) : Tr L fun H => tRet te D σ H := k
theorem t_retN (k : Tr L fun H => D.rt .non H) : Tr L fun H => tRetN D σ H := k
theorem t_if (k : Tr L fun H => t σ H fun b H1 => if b = true then s1 D σ H1 else s2 D σ H1) : Tr L fun H => tIfS t s1 s2 D σ H := k
theorem t_sub {to ti : TE} {ts : TSet} {Qn : SS → Hp → Prop} (k : Tr L fun H => to σ H fun o H1 => ti σ H1 fun i H2 => ts o i v H2 fun H3 => Qn σ H3) : Tr L fun H => gSub to ti ts v σ H Qn := k
theorem t_setL {m : Int} {j : Nat} (hp : Pick p (.lst xs) L R) (hj : ixN xs.length m = some j) (k : Tr ((p, .lst (xs.set j v)) :: R) G) : Tr L fun H => rSetL (.ref p) (.int m) v H G :=
  fun H l => ⟨p, xs, m, j, rfl, rfl, l.get hp, hj, k _ (l.pick hp).put⟩
theorem t_tupG {n : Nat} {gs : TGs} {Qn : SS → Hp → Prop} (hp : Pick a (.tup xs) L R) (hn : xs.length = n) (k : Tr L fun H => gs xs σ H Qn) : Tr L fun H => gTup K n gs (.ref a) σ H Qn := fun H l => ⟨a, xs, rfl, sqT hp l, hn, k H l⟩
theorem t_consG {gs : TGs} {Qn : SS → Hp → Prop} (k : Tr L fun H => g v σ H fun σ1 H1 => gs xs σ1 H1 Qn) : Tr L fun H => gCons g gs (v :: xs) σ H Qn := fun H l => ⟨v, xs, rfl, k H l⟩
theorem t_nilG {Qn : SS → Hp → Prop} (k : Tr L fun H => Qn σ H) : Tr L fun H => gNil [] σ H Qn := fun H l => ⟨rfl, k H l⟩
/-! ### where one goes on -/
theorem t_nx {f b c : SS → Hp → Prop} {r : VK} (k : Tr L fun H => f σ H) : Tr L fun H => (Ends.mk f r b c).nx σ H := k
theorem t_rt {f b c : SS → Hp → Prop} {r : VK} (k : Tr L fun H => r v H) : Tr L fun H => (Ends.mk f r b c).rt v H := k
theorem t_bk {f b c : SS → Hp → Prop} {r : VK} (k : Tr L fun H => b σ H) : Tr L fun H => (Ends.mk f r b c).bk σ H := k
theorem t_ct {f b c : SS → Hp → Prop} {r : VK} (k : Tr L fun H => c σ H) : Tr L fun H => (Ends.mk f r b c).ct σ H := k
end

/-! ### what is walked -/
/-- n turns; at turn i the value v with val i v L', L' what is made for it -/
structure Wk (J : It) (n : Nat) (val : Nat → V → Lg → Prop) (Src : Lg → Prop) : Prop where
  go : ∀ L H i, Src L → Led H L → i < n → J.go i H
  yld : ∀ L H i v H', Src L → Led H L → i < n → J.yld i H v H' → ∃ L', val i v L' ∧ Led H' (L' ++ L)
  stop : ∀ L H, Src L → Led H L → J.stop n H
section
variable {K : PySem.W.Frag}
/-- the ledger reads a as the list xs -/
def InL (a : Addr) (xs : List V) (L : Lg) : Prop := ∃ R, Pick a (.lst xs) L R
theorem InL.sq {a : Addr} {xs : List V} {L : Lg} {H : Hp} (h : InL a xs L) (l : Led H L) : SqL K H a xs := let ⟨_, p⟩ := h; sqL p l
theorem led_sq_inj {H : Hp} {a : Addr} {xs ys : List V} (h : H a = some (.lst xs)) (h' : SqL K H a ys) (hk : K.lookup a = none) : ys = xs := by
  rcases h' with (h' | ⟨o, h'⟩) | ⟨o, its, n, hl, _⟩
  · rw [h] at h'; cases h'; rfl
  · rw [h] at h'; cases h'
  · rw [hk] at hl; cases hl
theorem wk_list {a : Addr} {xs : List V} : Wk (Itl K a) xs.length (fun i v L' => xs[i]? = some v ∧ L' = []) (InL a xs) where
  go := fun L H i hs l hi => ⟨xs, xs[i], hs.sq l, by simp [hi]⟩
  yld := fun L H i v H' hs l hi hy => ⟨[], ⟨hy.2 xs (hs.sq l), rfl⟩, by rw [hy.1]; exact l⟩
  stop := fun L H hs l => ⟨xs, hs.sq l, Nat.le_refl _⟩
def InT (a : Addr) (xs : List V) (L : Lg) : Prop := ∃ R, Pick a (.tup xs) L R
theorem InT.sq {a : Addr} {xs : List V} {L : Lg} {H : Hp} (h : InT a xs L) (l : Led H L) : SqT K H a xs := let ⟨_, p⟩ := h; sqT p l
theorem wk_tup {a : Addr} {xs : List V} : Wk (Itt K a) xs.length (fun i v L' => xs[i]? = some v ∧ L' = []) (InT a xs) where
  go := fun L H i hs l hi => ⟨xs, xs[i], hs.sq l, by simp [hi]⟩
  yld := fun L H i v H' hs l hi hy => ⟨[], ⟨hy.2 xs (hs.sq l), rfl⟩, by rw [hy.1]; exact l⟩
  stop := fun L H hs l => ⟨xs, hs.sq l, Nat.le_refl _⟩
theorem wk_range {lo : Int} {n : Nat} : Wk (Itr lo n) n (fun i v L' => v = .int (lo + i) ∧ L' = []) (fun _ => True) where
  go := fun L H i _ _ hi => hi
  yld := fun L H i v H' _ l hi hy => ⟨[], ⟨hy.2, rfl⟩, by rw [hy.1]; exact l⟩
  stop := fun L H _ _ => Nat.le_refl n
theorem wk_range3 {lo c : Int} {n : Nat} : Wk (Itc lo c n) n (fun i v L' => v = .int (lo + i * c) ∧ L' = []) (fun _ => True) where
  go := fun L H i _ _ hi => hi
  yld := fun L H i v H' _ l hi hy => ⟨[], ⟨hy.2, rfl⟩, by rw [hy.1]; exact l⟩
  stop := fun L H _ _ => Nat.le_refl n
theorem wk_str {z : Str} : Wk (Its z) z.cps.size (fun i v L' => (∃ c, z.cps[i]? = some c ∧ v = .str ⟨#[c]⟩) ∧ L' = []) (fun _ => True) where
  go := fun L H i _ _ hi => hi
  yld := fun L H i v H' _ l hi hy => ⟨[], ⟨hy.2, rfl⟩, by rw [hy.1]; exact l⟩
  stop := fun L H _ _ => Nat.le_refl _
theorem wk_enum {a : Addr} {xs : List V} : Wk (Ite K a) xs.length (fun i v L' => ∃ T x, v = .ref T ∧ xs[i]? = some x ∧ L' = [(T, .tup [.int (i : Nat), x])]) (InL a xs) where
  go := fun L H i hs l hi => ⟨xs, xs[i], hs.sq l, by simp [hi]⟩
  yld := fun L H i v H' hs l hi hy => by
    obtain ⟨T, x, e, n, eH, q⟩ := hy
    exact ⟨_, ⟨T, x, e, q xs (hs.sq l), rfl⟩, by rw [eH]; exact l.new n⟩
  stop := fun L H hs l => ⟨xs, hs.sq l, Nat.le_refl _⟩
theorem wk_zip {a b : Addr} {xs ys : List V} : Wk (Itz K a b) (min xs.length ys.length) (fun i v L' => ∃ T x y, v = .ref T ∧ xs[i]? = some x ∧ ys[i]? = some y ∧ L' = [(T, .tup [x, y])]) (fun L => InL a xs L ∧ InL b ys L) where
  go := fun L H i hs l hi => by
    have h1 : i < xs.length := by omega
    have h2 : i < ys.length := by omega
    exact ⟨xs, ys, xs[i], ys[i], hs.1.sq l, hs.2.sq l, by simp [h1], by simp [h2]⟩
  yld := fun L H i v H' hs l hi hy => by
    obtain ⟨T, x, y, e, n, eH, q1, q2⟩ := hy
    exact ⟨_, ⟨T, x, y, e, q1 xs (hs.1.sq l), q2 ys (hs.2.sq l), rfl⟩, by rw [eH]; exact l.new n⟩
  stop := fun L H hs l => ⟨xs, ys, hs.1.sq l, hs.2.sq l, by omega⟩
end

section
variable {K : PySem.W.Frag}
theorem wk_zipT {a b : Addr} {xs ys : List V} : Wk (ItzT K a b) (min xs.length ys.length) (fun i v L' => ∃ T x y, v = .ref T ∧ xs[i]? = some x ∧ ys[i]? = some y ∧ L' = [(T, .tup [x, y])]) (fun L => InT a xs L ∧ InT b ys L) where
  go := fun L H i hs l hi => by
    have h1 : i < xs.length := by omega
    have h2 : i < ys.length := by omega
    exact ⟨xs, ys, xs[i], ys[i], hs.1.sq l, hs.2.sq l, by simp [h1], by simp [h2]⟩
  yld := fun L H i v H' hs l hi hy => by
    obtain ⟨T, x, y, e, n, eH, q1, q2⟩ := hy
    exact ⟨_, ⟨T, x, y, e, q1 xs (hs.1.sq l), q2 ys (hs.2.sq l), rfl⟩, by rw [eH]; exact l.new n⟩
  stop := fun L H hs l => ⟨xs, ys, hs.1.sq l, hs.2.sq l, by omega⟩
end
/-! ### for -/
section
variable {L : Lg} {σ : SS} {K : PySem.W.Frag} {te : TE} {tr : TA} {wi : TI} {g : TG} {tb : TS} {D : Ends}
def forK (g : TG) (tb : TS) (D : Ends) (σ : SS) (J : It) (H1 : Hp) : Prop := ∃ W : Nat → Nat → SS → Hp → Prop, (∃ m, W 0 m σ H1) ∧ ∀ i m σ H, W i m σ H →
  (J.stop i H ∧ D.nx σ H) ∨ (J.go i H ∧ ∃ N : SS → Hp → Prop, (∀ σ' H', N σ' H' → ∃ m', m' < m ∧ W (i + 1) m' σ' H') ∧ ∀ x H', J.yld i H x H' → g x σ H' fun σ2 H2 => tb { D with nx := N, ct := N, bk := D.nx } σ2 H2)
theorem t_for (k : Tr L fun H => wi σ H (forK g tb D σ)) : Tr L fun H => tFor wi g tb D σ H := k
/-- the state at a turn's end -/
def Pst {α : Type} (S : Nat → α → SS) (M : Nat → α → Lg) (I : Nat → α → Prop) (i : Nat) (σ : SS) (H : Hp) : Prop := ∃ y, I i y ∧ σ = S i y ∧ Led H (M i y)
theorem t_pst {α : Type} {S : Nat → α → SS} {M : Nat → α → Lg} {I : Nat → α → Prop} {i : Nat} (y : α) (hI : I i y) (hσ : σ = S i y) (hM : Sub L (M i y)) : Tr L fun H => Pst S M I i σ H := fun H l => ⟨y, hI, hσ, l.sub hM⟩
theorem t_forK {α : Type} {J : It} {n : Nat} {val : Nat → V → Lg → Prop} {Src : Lg → Prop} (wk : Wk J n val Src) (S : Nat → α → SS) (M : Nat → α → Lg) (I : Nat → α → Prop)
    (h0 : ∃ y, I 0 y ∧ σ = S 0 y ∧ Sub L (M 0 y)) (hsrc : ∀ i y, I i y → Src (M i y))
    (hs : ∀ i y v L', i < n → I i y → val i v L' → Tr (L' ++ M i y) fun H => g v (S i y) H fun σ2 H2 => tb { D with nx := Pst S M I (i + 1), ct := Pst S M I (i + 1), bk := D.nx } σ2 H2)
    (hd : ∀ y, I n y → Tr (M n y) fun H => D.nx (S n y) H) : Tr L fun H => forK g tb D σ J H := by
  intro H l
  obtain ⟨y0, i0, e0, s0⟩ := h0
  refine ⟨fun i m σ' H' => m = n - i ∧ i ≤ n ∧ Pst S M I i σ' H', ⟨n, by simp, Nat.zero_le _, y0, i0, e0, l.sub s0⟩, ?_⟩
  rintro i m σ' H' ⟨rfl, hi, y, iy, rfl, ly⟩
  by_cases h : i < n
  · refine .inr ⟨wk.go _ _ i (hsrc i y iy) ly h, Pst S M I (i + 1), fun σ2 H2 p => ⟨n - (i + 1), by omega, rfl, h, p⟩, fun v H2 yl => ?_⟩
    obtain ⟨L', hv, l'⟩ := wk.yld _ _ i v H2 (hsrc i y iy) ly h yl
    exact hs i y v L' h iy hv H2 l'
  · obtain rfl : i = n := by omega
    exact .inl ⟨wk.stop _ _ (hsrc i y iy) ly, hd y iy H' ly⟩
/-- the walked things -/
def itL (K : PySem.W.Frag) (x : V) (H : Hp) (R : It → Hp → Prop) : Prop := ∃ a, x = .ref a ∧ (∃ xs, SqL K H a xs) ∧ R (Itl K a) H
def itT (K : PySem.W.Frag) (x : V) (H : Hp) (R : It → Hp → Prop) : Prop := ∃ a, x = .ref a ∧ (∃ xs, SqT K H a xs) ∧ R (Itt K a) H
def itR1 (vs : List V) (H : Hp) (R : It → Hp → Prop) : Prop := ∃ j : Int, vs = [.int j] ∧ -(2 ^ 62) ≤ j ∧ j < 2 ^ 62 ∧ R (Itr 0 j.toNat) H
def itR2 (vs : List V) (H : Hp) (R : It → Hp → Prop) : Prop := ∃ i j : Int, vs = [.int i, .int j] ∧ (-(2 ^ 62) ≤ i ∧ i < 2 ^ 62 ∧ -(2 ^ 62) ≤ j ∧ j < 2 ^ 62) ∧ R (Itr i (j - i).toNat) H
def itR3 (vs : List V) (H : Hp) (R : It → Hp → Prop) : Prop := ∃ (i j c : Int) (n : Nat), vs = [.int i, .int j, .int c] ∧ RgC i j c n ∧ R (Itc i c n) H
def itE (K : PySem.W.Frag) (vs : List V) (H : Hp) (R : It → Hp → Prop) : Prop := ∃ a xs, vs = [.ref a] ∧ SqL K H a xs ∧ R (Ite K a) H
def itZ (K : PySem.W.Frag) (vs : List V) (H : Hp) (R : It → Hp → Prop) : Prop := ∃ a b xs ys, vs = [.ref a, .ref b] ∧ SqL K H a xs ∧ SqL K H b ys ∧ R (Itz K a b) H
def itS (x : V) (H : Hp) (R : It → Hp → Prop) : Prop := ∃ z, x = .str z ∧ R (Its z) H
def itZA (K : PySem.W.Frag) (vs : List V) (H : Hp) (R : It → Hp → Prop) : Prop := ∃ a b xs ys, vs = [.ref a, .ref b] ∧ ((SqL K H a xs ∧ SqL K H b ys ∧ R (Itz K a b) H) ∨ (SqT K H a xs ∧ SqT K H b ys ∧ R (ItzT K a b) H))
variable {RJ : It → Hp → Prop}
theorem t_iZA (k : Tr L fun H => tr σ H fun x H1 => itZA K x H1 RJ) : Tr L fun H => iZipA K tr σ H RJ := k
theorem t_iL (k : Tr L fun H => te σ H fun x H1 => itL K x H1 RJ) : Tr L fun H => iList K te σ H RJ := k
theorem t_iT (k : Tr L fun H => te σ H fun x H1 => itT K x H1 RJ) : Tr L fun H => iTup K te σ H RJ := k
theorem t_iR1 (k : Tr L fun H => tr σ H fun x H1 => itR1 x H1 RJ) : Tr L fun H => iRng1 tr σ H RJ := k
theorem t_iR2 (k : Tr L fun H => tr σ H fun x H1 => itR2 x H1 RJ) : Tr L fun H => iRng2 tr σ H RJ := k
theorem t_iR3 (k : Tr L fun H => tr σ H fun x H1 => itR3 x H1 RJ) : Tr L fun H => iRng3 tr σ H RJ := k
theorem t_iE (k : Tr L fun H => tr σ H fun x H1 => itE K x H1 RJ) : Tr L fun H => iEnum K tr σ H RJ := k
theorem t_iZ (k : Tr L fun H => tr σ H fun x H1 => itZ K x H1 RJ) : Tr L fun H => iZip K tr σ H RJ := k
theorem t_iS (k : Tr L fun H => te σ H fun x H1 => itS x H1 RJ) : Tr L fun H => iStr te σ H RJ := k
variable {R R' : Lg} {a b : Addr} {xs ys : List V}
theorem t_itL (hp : Pick a (.lst xs) L R) (k : Tr L fun H => RJ (Itl K a) H) : Tr L fun H => itL K (.ref a) H RJ := fun H l => ⟨a, rfl, ⟨xs, sqL hp l⟩, k H l⟩
theorem t_itT (hp : Pick a (.tup xs) L R) (k : Tr L fun H => RJ (Itt K a) H) : Tr L fun H => itT K (.ref a) H RJ := fun H l => ⟨a, rfl, ⟨xs, sqT hp l⟩, k H l⟩
theorem t_itR1 {j : Int} (h1 : -(2 ^ 62) ≤ j) (h2 : j < 2 ^ 62) (k : Tr L fun H => RJ (Itr 0 j.toNat) H) : Tr L fun H => itR1 [.int j] H RJ := fun H l => ⟨j, rfl, h1, h2, k H l⟩
theorem t_itR2 {i j : Int} (h1 : -(2 ^ 62) ≤ i ∧ i < 2 ^ 62 ∧ -(2 ^ 62) ≤ j ∧ j < 2 ^ 62) (k : Tr L fun H => RJ (Itr i (j - i).toNat) H) : Tr L fun H => itR2 [.int i, .int j] H RJ := fun H l => ⟨i, j, rfl, h1, k H l⟩
theorem t_itR3 {i j c : Int} {n : Nat} (h1 : RgC i j c n) (k : Tr L fun H => RJ (Itc i c n) H) : Tr L fun H => itR3 [.int i, .int j, .int c] H RJ := fun H l => ⟨i, j, c, n, rfl, h1, k H l⟩
theorem t_itE (hp : Pick a (.lst xs) L R) (k : Tr L fun H => RJ (Ite K a) H) : Tr L fun H => itE K [.ref a] H RJ := fun H l => ⟨a, xs, rfl, sqL hp l, k H l⟩
theorem t_itZ (hp : Pick a (.lst xs) L R) (hq : Pick b (.lst ys) L R') (k : Tr L fun H => RJ (Itz K a b) H) : Tr L fun H => itZ K [.ref a, .ref b] H RJ := fun H l => ⟨a, b, xs, ys, rfl, sqL hp l, sqL hq l, k H l⟩
theorem t_itZL (hp : Pick a (.lst xs) L R) (hq : Pick b (.lst ys) L R') (k : Tr L fun H => RJ (Itz K a b) H) : Tr L fun H => itZA K [.ref a, .ref b] H RJ := fun H l => ⟨a, b, xs, ys, rfl, .inl ⟨sqL hp l, sqL hq l, k H l⟩⟩
theorem t_itZT (hp : Pick a (.tup xs) L R) (hq : Pick b (.tup ys) L R') (k : Tr L fun H => RJ (ItzT K a b) H) : Tr L fun H => itZA K [.ref a, .ref b] H RJ := fun H l => ⟨a, b, xs, ys, rfl, .inr ⟨sqT hp l, sqT hq l, k H l⟩⟩
theorem t_itS {z : Str} (k : Tr L fun H => RJ (Its z) H) : Tr L fun H => itS (.str z) H RJ := fun H l => ⟨z, rfl, k H l⟩
theorem t_nxP {α : Type} {S : Nat → α → SS} {M : Nat → α → Lg} {I : Nat → α → Prop} {i : Nat} {r : VK} {b c : SS → Hp → Prop} (k : Tr L fun H => Pst S M I i σ H) : Tr L fun H => Ends.nx ⟨Pst S M I i, r, b, c⟩ σ H := k
theorem t_ctP {α : Type} {S : Nat → α → SS} {M : Nat → α → Lg} {I : Nat → α → Prop} {i : Nat} {r : VK} {f b : SS → Hp → Prop} (k : Tr L fun H => Pst S M I i σ H) : Tr L fun H => Ends.ct ⟨f, r, b, Pst S M I i⟩ σ H := k
/-! ### while -/
/-- the state at the end of a while's turn -/
def Wst {α : Type} (S : α → SS) (M : α → Lg) (I : α → Prop) (μ : α → Nat) (n : Nat) (σ : SS) (H : Hp) : Prop := ∃ z, I z ∧ μ z < n ∧ σ = S z ∧ Led H (M z)
theorem t_nxW {α : Type} {S : α → SS} {M : α → Lg} {I : α → Prop} {μ : α → Nat} {n : Nat} {r : VK} {b c : SS → Hp → Prop} (k : Tr L fun H => Wst S M I μ n σ H) : Tr L fun H => Ends.nx ⟨Wst S M I μ n, r, b, c⟩ σ H := k
theorem t_ctW {α : Type} {S : α → SS} {M : α → Lg} {I : α → Prop} {μ : α → Nat} {n : Nat} {r : VK} {f b : SS → Hp → Prop} (k : Tr L fun H => Wst S M I μ n σ H) : Tr L fun H => Ends.ct ⟨f, r, b, Wst S M I μ n⟩ σ H := k
theorem t_while {α : Type} {tc : TT} (S : α → SS) (M : α → Lg) (I : α → Prop) (μ : α → Nat) (h0 : ∃ y, I y ∧ σ = S y ∧ Sub L (M y))
    (hs : ∀ y, I y → ∃ b, (∀ QB : Bool → Hp → Prop, Tr (M y) (fun H => QB b H) → Tr (M y) fun H => tc (S y) H QB) ∧
      (b = true → Tr (M y) fun H => tb { D with nx := Wst S M I μ (μ y), ct := Wst S M I μ (μ y), bk := D.nx } (S y) H) ∧
      (b = false → Tr (M y) fun H => D.nx (S y) H)) : Tr L fun H => tWhile tc tb D σ H := by
  intro H l
  obtain ⟨y0, i0, e0, s0⟩ := h0
  refine ⟨fun m σ' H' => ∃ y, m = μ y ∧ I y ∧ σ' = S y ∧ Led H' (M y), ⟨μ y0, y0, rfl, i0, e0, l.sub s0⟩, ?_⟩
  rintro m σ' H' ⟨y, rfl, iy, rfl, ly⟩
  obtain ⟨b, h1, h2, h3⟩ := hs y iy
  refine h1 _ (fun H2 l2 => ?_) H' ly
  cases b with
  | true =>
    rw [if_pos rfl]
    exact ⟨_, fun σ3 H3 ⟨z, iz, lt, e, lz⟩ => ⟨μ z, lt, z, rfl, iz, e, lz⟩, h2 rfl H2 l2⟩
  | false =>
    rw [if_neg Bool.false_ne_true]
    exact h3 rfl H2 l2
theorem t_whl {α : Type} {S : α → SS} {M : α → Lg} {I : α → Prop} {μ : α → Nat} {n : Nat} (y : α) (hI : I y) (hm : μ y < n) (hσ : σ = S y) (hM : Sub L (M y)) : Tr L fun H => Wst S M I μ n σ H :=
  fun H l => ⟨y, hI, hm, hσ, l.sub hM⟩
end

/-! ### list comprehensions -/
section
variable {L : Lg} {σ σ0 : SS} {K : PySem.W.Frag} {wi : TI} {g : TG} {tt : TT} {te : TE} {vs : List Nat} {Q : VK}
def lcK (g : TG) (tt : TT) (te : TE) (vs : List Nat) (σ : SS) (Q : VK) (J : It) (H1 : Hp) : Prop := ∀ D, H1 D = none → ∃ W : Nat → Nat → Hp → Prop, (∃ m, W 0 m (upd H1 D (.lst []))) ∧ ∀ i m H, W i m H →
  (J.stop i H ∧ Q (.ref D) H) ∨ (J.go i H ∧ ∃ Nx : Hp → Prop, (∀ H', Nx H' → ∃ m', m' < m ∧ W (i + 1) m' H') ∧ ∀ x H', J.yld i H x H' → g x (wipe σ vs) H' fun σ2 H2 => wipe σ2 vs = wipe σ vs ∧ tt σ2 H2 fun b H3 =>
    if b = true then te σ2 H3 fun y H4 => ∃ acc, H4 D = some (.lst acc) ∧ acc.length < sizeLine ∧ Nx (upd H4 D (.lst (acc ++ [y]))) else Nx H3)
theorem t_lc (k : Tr L fun H => wi σ H (lcK g tt te vs σ Q)) : Tr L fun H => tLc wi g tt te vs σ H Q := k
/-- an item is added to the new list -/
def lcAdd (D : Addr) (N : Hp → Prop) (y : V) (H : Hp) : Prop := ∃ acc, H D = some (.lst acc) ∧ acc.length < sizeLine ∧ N (upd H D (.lst (acc ++ [y])))
def lcNx {α : Type} (M : Nat → α → Lg) (out : Nat → α → List V) (I : Nat → α → Prop) (D : Addr) (i : Nat) (H : Hp) : Prop := ∃ y, I i y ∧ Led H ((D, .lst (out i y)) :: M i y)
theorem t_lcAdd {α : Type} {M : Nat → α → Lg} {out : Nat → α → List V} {I : Nat → α → Prop} {D : Addr} {i : Nat} {acc : List V} {R : Lg} {v : V} (y : α) (hI : I i y) (hp : Pick D (.lst acc) L R) (hz : acc.length < sizeLine)
    (he : acc ++ [v] = out i y) (hM : Sub R (M i y)) : Tr L fun H => lcAdd D (lcNx M out I D i) v H := fun H l => by
  refine ⟨acc, l.get hp, hz, y, hI, ?_⟩
  rw [he]
  have l2 := (l.pick hp).put (o' := .lst (out i y))
  exact l2.sub (.take .head hM)
theorem t_lcSkip {α : Type} {M : Nat → α → Lg} {out : Nat → α → List V} {I : Nat → α → Prop} {D : Addr} {i : Nat} (y : α) (hI : I i y) (hM : Sub L ((D, .lst (out i y)) :: M i y)) : Tr L fun H => lcNx M out I D i H := fun H l => ⟨y, hI, l.sub hM⟩
theorem t_lcK {α : Type} {J : It} {n : Nat} {val : Nat → V → Lg → Prop} {Src : Lg → Prop} (wk : Wk J n val Src) (hw : wipe σ vs = σ0) (M : Nat → α → Lg) (out : Nat → α → List V) (I : Nat → α → Prop)
    (h0 : ∃ y, I 0 y ∧ out 0 y = [] ∧ Sub L (M 0 y)) (hsrc : ∀ D i y, I i y → Src ((D, .lst (out i y)) :: M i y))
    (hs : ∀ D i y v L', i < n → I i y → val i v L' → Tr (L' ++ (D, .lst (out i y)) :: M i y) fun H => g v σ0 H fun σ2 H2 => wipe σ2 vs = σ0 ∧ tt σ2 H2 fun b H3 =>
      if b = true then te σ2 H3 (lcAdd D (lcNx M out I D (i + 1))) else lcNx M out I D (i + 1) H3)
    (hd : ∀ D y, I n y → Tr ((D, .lst (out n y)) :: M n y) fun H => Q (.ref D) H) : Tr L fun H => lcK g tt te vs σ Q J H := by
  intro H l D hD
  obtain ⟨y0, i0, e0, s0⟩ := h0
  have start : lcNx M out I D 0 (upd H D (.lst [])) := ⟨y0, i0, by rw [e0]; exact (l.new hD).sub (.take .head s0)⟩
  refine ⟨fun i m H' => m = n - i ∧ i ≤ n ∧ lcNx M out I D i H', ⟨n, by simp, Nat.zero_le _, start⟩, ?_⟩
  rintro i m H' ⟨rfl, hi, y, iy, ly⟩
  by_cases h : i < n
  · refine .inr ⟨wk.go _ _ i (hsrc D i y iy) ly h, lcNx M out I D (i + 1), fun H2 p => ⟨n - (i + 1), by omega, rfl, h, p⟩, fun v H2 yl => ?_⟩
    obtain ⟨L', hv, l'⟩ := wk.yld _ _ i v H2 (hsrc D i y iy) ly h yl
    rw [hw]
    exact hs D i y v L' h iy hv H2 l'
  · obtain rfl : i = n := by omega
    exact .inl ⟨wk.stop _ _ (hsrc D i y iy) ly, hd D y iy H' ly⟩
theorem t_wiped {G : Hp → Prop} {σ2 : SS} (hw : wipe σ2 vs = σ0) (k : Tr L G) : Tr L fun H => wipe σ2 vs = σ0 ∧ G H := fun H l => ⟨hw, k H l⟩
theorem t_yes {QB : Bool → Hp → Prop} (k : Tr L fun H => QB true H) : Tr L fun H => tYes σ H QB := k
end
end Hz
namespace Hz
open PySem PySem.Spec PyProof.Rows L2 RZ
/-- the slot i of σ holds v -/
inductive GetAt : SS → Nat → V → Prop where
  | zero {v : V} {r : SS} : GetAt (some v :: r) 0 v
  | succ {i : Nat} {v : V} {y : Option V} {r : SS} : GetAt r i v → GetAt (y :: r) (i + 1) v
theorem GetAt.eq {σ : SS} {i : Nat} {v : V} (h : GetAt σ i v) : σ[i]? = some (some v) := by
  induction h with
  | zero => rfl
  | succ _ ih => rw [List.getElem?_cons_succ, ih]
section
variable {L R : Lg} {σ σ' : SS} {Q : VK} {te : TE} {D : Ends} {v x : V} {i : Nat}
theorem t_varA (h : GetAt σ i v) (k : Tr L fun H => Q v H) : Tr L fun H => tVar i σ H Q := t_var h.eq k
theorem t_augA {ti : TIp} (h : GetAt σ i x) (k : Tr L fun H => te σ H fun y H1 => ti x y H1 fun z H2 => gName i z σ H2 D.nx) : Tr L fun H => tAug i te ti D σ H := t_aug h.eq k
end
end Hz

/-! Hz, rules with readings that bear a name. -/
namespace Hz
open PySem PySem.Spec PyProof.Rows L2 RZ
/-! ### the module's names -/
/-- a constant of the module -/
def GV (mg : Str → Option Value) (x : Str) (v : V) : Prop := ∃ u, mg x = some u ∧ RelV v u
section
variable {X : Cx}
theorem pe_gv {x : Str} {v : V} {pos : Pos} (h : GV X.mg x v) (hg : Gl X x := by rfl) (hd : (x == ("__debug__" : Str)) = false := by decide) (hc : (x == ("__classdict__" : Str)) = false := by decide) : PE X (.Name x pos) (tC v) := by
  obtain ⟨u, hm, r⟩ := h
  exact pe_glob hg hm r hd
/-! ### numbers -/
def cPow (i j : Int) : Prop := 0 ≤ j ∧ (Builtin.Int.intBits i : Int) * j ≤ 2 ^ 27
theorem op_powW : OpR X (binaryOp .Pow) (rI cPow fun i j => .int (i ^ j.toNat)) := opI fun _ _ _ _ _ _ _ hc q => pow_int hc.1 hc.2 q
def cMul (i j : Int) : Prop := (-(2 ^ 64) < i ∧ i < 2 ^ 64) ∨ (-(2 ^ 64) < j ∧ j < 2 ^ 64) ∨ CMulW i j
theorem op_mulA : OpR X (binaryOp .Mult) (rI cMul fun i j => .int (i * j)) := opI fun _ _ _ _ _ _ _ hc q => by
  rcases hc with h | h | h
  · exact mul_int q (CMul.ok (.inl h))
  · exact mul_int q (CMul.ok (.inr h))
  · exact mul_int q h.ok
def rMax2 : List V → Hp → VK → Prop := fun xs H Q => ∃ i j, xs = [.int i, .int j] ∧ Q (.int (max i j)) H
def rMin2 : List V → Hp → VK → Prop := fun xs H Q => ∃ i j, xs = [.int i, .int j] ∧ Q (.int (min i j)) H
theorem max_ite (i j : Int) : (if j > i then j else i) = max i j := by split <;> omega
theorem min_ite (i j : Int) : (if j < i then j else i) = min i j := by split <;> omega
theorem c_max2 (hc : X.calm = true) : CallR X (.builtin "max") rMax2 := fun pins s σ H xs us Q I r ⟨i, j, e, q⟩ => call_max2 hc pins s σ H xs us Q I r ⟨i, j, e, by rw [max_ite]; exact q⟩
theorem c_min2 (hc : X.calm = true) : CallR X (.builtin "min") rMin2 := fun pins s σ H xs us Q I r ⟨i, j, e, q⟩ => call_min2 hc pins s σ H xs us Q I r ⟨i, j, e, by rw [min_ite]; exact q⟩
def rInt : List V → Hp → VK → Prop := fun xs H Q => (∃ i, xs = [.int i] ∧ Q (.int i) H) ∨ ∃ k, xs = [.bl k] ∧ Q (.int (if k then 1 else 0)) H
theorem c_int : CallR X (.type "int") rInt := call_int1
/-! ### len, isinstance, list(..), tuple(..) -/
def rLen (K : PySem.W.Frag) : List V → Hp → VK → Prop := fun xs H Q => ∃ x n, xs = [x] ∧ LenV K x H n ∧ Q (.int n) H
theorem c_len : CallR X (.builtin "len") (rLen X.K) := call_len
def rIs (K : PySem.W.Frag) : List V → Hp → VK → Prop := fun xs H Q => ∃ (x c : V) (t u : Value) (b : Bool), xs = [x, c] ∧ ClsV c u ∧ TyX K H x t ∧ PySem.W.kitOne K t u = some b ∧ Q (.bl b) H
theorem c_is : CallR X (.builtin "isinstance") (rIs X.K) := call_isi
def rIsT (K : PySem.W.Frag) : List V → Hp → VK → Prop := fun xs H Q => ∃ (x : V) (tp : Addr) (cs : List V) (t : Value) (us : List Value) (b : Bool), xs = [x, .ref tp] ∧ H tp = some (.tup cs) ∧ Paired ClsV cs us ∧ TyX K H x t ∧ PySem.W.kitAny K t us = some b ∧ Q (.bl b) H
theorem c_isT : CallR X (.builtin "isinstance") (rIsT X.K) := call_isiT
def rList (K : PySem.W.Frag) : List V → Hp → VK → Prop := fun xs H Q => ∃ p ys, xs = [.ref p] ∧ (SqL K H p ys ∨ SqT K H p ys) ∧ ∀ l, H l = none → Q (.ref l) (upd H l (.lst ys))
theorem c_list : CallR X (.type "list") (rList X.K) := call_list_of
def rTuple (K : PySem.W.Frag) : List V → Hp → VK → Prop := fun xs H Q => ∃ p ys, xs = [.ref p] ∧ ((SqL K H p ys ∧ ∀ l, H l = none → Q (.ref l) (upd H l (.tup ys))) ∨ (SqT K H p ys ∧ Q (.ref p) H))
theorem c_tuple : CallR X (.type "tuple") (rTuple X.K) := call_tuple_of
end
/-! ### their steps -/
section
variable {L R : Lg} {Q : VK} {K : PySem.W.Frag} {a p : Addr} {xs : List V} {σ : SS}
theorem t_max2 {i j : Int} (k : Tr L fun H => Q (.int (max i j)) H) : Tr L fun H => rMax2 [.int i, .int j] H Q := fun H l => ⟨i, j, rfl, k H l⟩
theorem t_min2 {i j : Int} (k : Tr L fun H => Q (.int (min i j)) H) : Tr L fun H => rMin2 [.int i, .int j] H Q := fun H l => ⟨i, j, rfl, k H l⟩
theorem t_intB {b : Bool} (k : Tr L fun H => Q (.int (if b then 1 else 0)) H) : Tr L fun H => rInt [.bl b] H Q := fun H l => .inr ⟨b, rfl, k H l⟩
theorem t_intI {i : Int} (k : Tr L fun H => Q (.int i) H) : Tr L fun H => rInt [.int i] H Q := fun H l => .inl ⟨i, rfl, k H l⟩
theorem t_lenL (hp : Pick p (.lst xs) L R) (k : Tr L fun H => Q (.int xs.length) H) : Tr L fun H => rLen K [.ref p] H Q := fun H l => ⟨_, _, rfl, .inl ⟨xs, sqL hp l, rfl⟩, k H l⟩
theorem t_lenT (hp : Pick p (.tup xs) L R) (k : Tr L fun H => Q (.int xs.length) H) : Tr L fun H => rLen K [.ref p] H Q := fun H l => ⟨_, _, rfl, .inr ⟨xs, sqT hp l, rfl⟩, k H l⟩
theorem t_lenS {z : Str} (hz : z.length ≤ sizeLine) (k : Tr L fun H => Q (.int z.length) H) : Tr L fun H => rLen K [.str z] H Q := fun H l => ⟨_, _, rfl, ⟨hz, rfl⟩, k H l⟩
/-- the type's name of a value that is no object -/
def tyN : V → String
  | .non => "NoneType"
  | .bl _ => "bool"
  | .int _ => "int"
  | .str _ => "str"
  | .byt _ => "bytes"
  | .flt _ => "float"
  | _ => "?"
theorem tyN_of {x : V} {H : Hp} (h : (tyN x == "?") = false) : TyX K H x (.type (tyN x)) := by
  cases x with
  | non => exact .base .non
  | bl b => exact .base (.bl b)
  | int i => exact .base (.int i)
  | str z => exact .base (.str z)
  | byt b => exact .byt b
  | flt b => exact .base (.flt b)
  | ref a => cases h
  | ty n => cases h
theorem t_isV {x : V} {C : String} {b : Bool} (hn : (tyN x == "?") = false) (hb : kitB (tyN x) C = some b) (k : Tr L fun H => Q (.bl b) H) : Tr L fun H => rIs K [x, .ty C] H Q :=
  fun H l => ⟨x, .ty C, _, _, b, rfl, .ty C, tyN_of hn, kit_ty hb, k H l⟩
theorem t_isL {C : String} {b : Bool} (hp : Pick p (.lst xs) L R) (hb : kitB "list" C = some b) (k : Tr L fun H => Q (.bl b) H) : Tr L fun H => rIs K [.ref p, .ty C] H Q :=
  fun H l => ⟨_, .ty C, _, _, b, rfl, .ty C, .base (.lst (l.get hp)), kit_ty hb, k H l⟩
theorem t_isT {C : String} {b : Bool} (hp : Pick p (.tup xs) L R) (hb : kitB "tuple" C = some b) (k : Tr L fun H => Q (.bl b) H) : Tr L fun H => rIs K [.ref p, .ty C] H Q :=
  fun H l => ⟨_, .ty C, _, _, b, rfl, .ty C, .base (.tup (l.get hp)), kit_ty hb, k H l⟩
theorem t_isD {C : String} {b : Bool} {kvs : List (Key × V)} (hp : Pick p (.dK kvs) L R) (hb : kitB "dict" C = some b) (k : Tr L fun H => Q (.bl b) H) : Tr L fun H => rIs K [.ref p, .ty C] H Q :=
  fun H l => ⟨_, .ty C, _, _, b, rfl, .ty C, .base (.dK (l.get hp)), kit_ty hb, k H l⟩
/-- one of several types -/
def kitBs (T : String) : List String → Option Bool
  | [] => some false
  | C :: r => match kitB T C with
    | some true => some true
    | some false => kitBs T r
    | none => none
theorem kitBs_any : ∀ {T : String} {Cs : List String} {b : Bool}, kitBs T Cs = some b → PySem.W.kitAny K (.type T) (Cs.map Value.type) = some b
  | T, [], b, h => by
    cases h
    exact kitAny_nil
  | T, C :: r, b, h => by
    unfold kitBs at h
    cases e : kitB T C with
    | none => rw [e] at h; cases h
    | some c =>
      rw [e] at h
      cases c with
      | true => cases h; exact kitAny_cons (kit_ty e) (fun z => nomatch z) fun _ => rfl
      | false => exact kitAny_cons (kit_ty e) (fun _ => kitBs_any h) fun z => nomatch z
theorem cls_tys : ∀ Cs : List String, Paired ClsV (Cs.map V.ty) (Cs.map Value.type)
  | [] => .nil
  | C :: r => .cons (.ty C) (cls_tys r)
theorem t_isTV {x : V} {Cs : List String} {b : Bool} {tp : Addr} (hp : Pick tp (.tup (Cs.map V.ty)) L R) (hn : (tyN x == "?") = false) (hb : kitBs (tyN x) Cs = some b) (k : Tr L fun H => Q (.bl b) H) : Tr L fun H => rIsT K [x, .ref tp] H Q :=
  fun H l => ⟨x, tp, _, _, _, b, rfl, l.get hp, cls_tys Cs, tyN_of hn, kitBs_any hb, k H l⟩
theorem t_isTL {R' : Lg} {Cs : List String} {b : Bool} {tp : Addr} (hp : Pick tp (.tup (Cs.map V.ty)) L R) (hq : Pick p (.lst xs) L R') (hb : kitBs "list" Cs = some b) (k : Tr L fun H => Q (.bl b) H) : Tr L fun H => rIsT K [.ref p, .ref tp] H Q :=
  fun H l => ⟨_, tp, _, _, _, b, rfl, l.get hp, cls_tys Cs, .base (.lst (l.get hq)), kitBs_any hb, k H l⟩
theorem t_isTT {R' : Lg} {Cs : List String} {b : Bool} {tp : Addr} (hp : Pick tp (.tup (Cs.map V.ty)) L R) (hq : Pick p (.tup xs) L R') (hb : kitBs "tuple" Cs = some b) (k : Tr L fun H => Q (.bl b) H) : Tr L fun H => rIsT K [.ref p, .ref tp] H Q :=
  fun H l => ⟨_, tp, _, _, _, b, rfl, l.get hp, cls_tys Cs, .base (.tup (l.get hq)), kitBs_any hb, k H l⟩
theorem t_isTD {R' : Lg} {Cs : List String} {b : Bool} {tp : Addr} {kvs : List (Key × V)} (hp : Pick tp (.tup (Cs.map V.ty)) L R) (hq : Pick p (.dK kvs) L R') (hb : kitBs "dict" Cs = some b) (k : Tr L fun H => Q (.bl b) H) : Tr L fun H => rIsT K [.ref p, .ref tp] H Q :=
  fun H l => ⟨_, tp, _, _, _, b, rfl, l.get hp, cls_tys Cs, .base (.dK (l.get hq)), kitBs_any hb, k H l⟩
theorem t_listL (hp : Pick a (.lst xs) L R) (k : ∀ p, Tr ((p, .lst xs) :: L) fun H => Q (.ref p) H) : Tr L fun H => rList K [.ref a] H Q := fun H l => ⟨a, xs, rfl, .inl (sqL hp l), fun p hp' => k p _ (l.new hp')⟩
theorem t_listT (hp : Pick a (.tup xs) L R) (k : ∀ p, Tr ((p, .lst xs) :: L) fun H => Q (.ref p) H) : Tr L fun H => rList K [.ref a] H Q := fun H l => ⟨a, xs, rfl, .inr (sqT hp l), fun p hp' => k p _ (l.new hp')⟩
theorem t_tupleL (hp : Pick a (.lst xs) L R) (k : ∀ p, Tr ((p, .tup xs) :: L) fun H => Q (.ref p) H) : Tr L fun H => rTuple K [.ref a] H Q := fun H l => ⟨a, xs, rfl, .inl ⟨sqL hp l, fun p hp' => k p _ (l.new hp')⟩⟩
/-- list(range(..)) -/
def newRg (m n : Int) (H : Hp) (Q : VK) : Prop := RgOk m n ∧ ∀ q, H q = none → Q (.ref q) (upd H q (.lst (rgV m n)))
theorem t_lstRg {te : SS → Hp → (Int → Int → Hp → Prop) → Prop} (k : Tr L fun H => te σ H fun m n H1 => newRg m n H1 Q) : Tr L fun H => tLstRg te σ H Q := k
theorem t_rg1 {te : TE} {QQ : Int → Int → Hp → Prop} (k : Tr L fun H => te σ H fun x H1 => ∃ n, x = .int n ∧ QQ 0 n H1) : Tr L fun H => tRg1 te σ H QQ := k
theorem t_rg2 {te tf : TE} {QQ : Int → Int → Hp → Prop} (k : Tr L fun H => te σ H fun x H1 => tf σ H1 fun y H2 => ∃ i j, x = .int i ∧ y = .int j ∧ QQ i j H2) : Tr L fun H => tRg2 te tf σ H QQ := k
theorem t_int2 {m n : Int} {G : Int → Int → Hp → Prop} (k : Tr L fun H => G m n H) : Tr L fun H => ∃ i j, V.int m = .int i ∧ V.int n = .int j ∧ G i j H := fun H l => ⟨m, n, rfl, rfl, k H l⟩
theorem t_newRg {m n : Int} (h : RgOk m n) (k : ∀ p, Tr ((p, .lst (rgV m n)) :: L) fun H => Q (.ref p) H) : Tr L fun H => newRg m n H Q := fun H l => ⟨h, fun p hp => k p _ (l.new hp)⟩
/-- xs[::-1] -/
def newRev (K : PySem.W.Frag) (x : V) (H : Hp) (Q : VK) : Prop := ∃ a xs, x = .ref a ∧ SqL K H a xs ∧ ∀ p, H p = none → Q (.ref p) (upd H p (.lst xs.reverse))
theorem t_revL {te : TE} (k : Tr L fun H => te σ H fun x H1 => newRev K x H1 Q) : Tr L fun H => tRevL K te σ H Q := k
theorem t_newRev (hp : Pick a (.lst xs) L R) (k : ∀ p, Tr ((p, .lst xs.reverse) :: L) fun H => Q (.ref p) H) : Tr L fun H => newRev K (.ref a) H Q := fun H l => ⟨a, xs, rfl, sqL hp l, fun p hp' => k p _ (l.new hp')⟩
theorem t_isB {m n : Bool} (k : Tr L fun H => Q (.bl (decide (m = n))) H) : Tr L fun H => rIsB (.bl m) (.bl n) H Q := fun H l => ⟨m, n, rfl, rfl, k H l⟩
theorem t_notB {m n : Bool} (k : Tr L fun H => Q (.bl (!decide (m = n))) H) : Tr L fun H => rNotB (.bl m) (.bl n) H Q := fun H l => ⟨m, n, rfl, rfl, k H l⟩
theorem t_all {bs : List Bool} (hp : Pick a (.lst (bs.map V.bl)) L R) (k : Tr L fun H => Q (.bl (bs.all id)) H) : Tr L fun H => rAll K [.ref a] H Q := fun H l => ⟨a, bs, rfl, sqL hp l, k H l⟩
theorem t_any {bs : List Bool} (hp : Pick a (.lst (bs.map V.bl)) L R) (k : Tr L fun H => Q (.bl (bs.any id)) H) : Tr L fun H => rAny K [.ref a] H Q := fun H l => ⟨a, bs, rfl, sqL hp l, k H l⟩
theorem t_sum {ns : List Int} (hp : Pick a (.lst (ns.map V.int)) L R) (k : Tr L fun H => Q (.int ns.sum) H) : Tr L fun H => rSum K [.ref a] H Q := fun H l => ⟨a, ns, rfl, sqL hp l, k H l⟩
theorem t_maxL {ns : List Int} (hp : Pick a (.lst (ns.map V.int)) L R) (h0 : 0 < ns.length) (k : ∀ m, m ∈ ns → (∀ y, y ∈ ns → y ≤ m) → Tr L fun H => Q (.int m) H) : Tr L fun H => rMax K [.ref a] H Q := fun H l => ⟨a, ns, rfl, sqL hp l, h0, fun m h1 h2 => k m h1 h2 H l⟩
theorem t_minL {ns : List Int} (hp : Pick a (.lst (ns.map V.int)) L R) (h0 : 0 < ns.length) (k : ∀ m, m ∈ ns → (∀ y, y ∈ ns → m ≤ y) → Tr L fun H => Q (.int m) H) : Tr L fun H => rMin K [.ref a] H Q := fun H l => ⟨a, ns, rfl, sqL hp l, h0, fun m h1 h2 => k m h1 h2 H l⟩
/-- data by the ledger -/
def DpL (K : PySem.W.Frag) (L : Lg) (x : V) (d : PyData) : Prop := ∀ H, Led H L → Dp K H x d
theorem dpAll_ints {H : Hp} : ∀ ns : List Int, DpAll K H (ns.map V.int) (ns.map PyData.int)
  | [] => .nil
  | n :: r => .cons (.int n) (dpAll_ints r)
theorem dpl_ints {ns : List Int} (hp : Pick a (.lst (ns.map V.int)) L R) : DpL K L (.ref a) (.list (ns.map PyData.int)) := fun H l => .lst (sqL hp l) (dpAll_ints ns)
theorem t_repr {x : V} {d : PyData} (hd : DpL K L x d) (hs : d.showable = true) (hk : d.depth < 60) (hz : d.shown.length ≤ sizeLine) (k : Tr L fun H => Q (.str d.shown) H) : Tr L fun H => rRepr K [x] H Q :=
  fun H l => ⟨x, d, rfl, hd H l, hs, hk, hz, k H l⟩
theorem t_eqD {x y : V} {d e : PyData} (hd : DpL K L x d) (he : DpL K L y e) (sd : SeqAt.shaped d = true) (se : SeqAt.shaped e = true) (k : Tr L fun H => Q (.bl (PyData.eqv d e)) H) : Tr L fun H => rEqD K x y H Q :=
  fun H l => ⟨d, e, hd H l, he H l, sd, se, k H l⟩
theorem t_neD {x y : V} {d e : PyData} (hd : DpL K L x d) (he : DpL K L y e) (sd : SeqAt.shaped d = true) (se : SeqAt.shaped e = true) (k : Tr L fun H => Q (.bl (!PyData.eqv d e)) H) : Tr L fun H => rNeD K x y H Q :=
  fun H l => ⟨d, e, hd H l, he H l, sd, se, k H l⟩
end
end Hz

/-! Hz, part D: data by the ledger; defs by name; types by the ledger. -/
namespace Hz
open PySem PySem.Spec PyProof.Rows L2 RZ
/-! ### a def of the text, by its name -/
def Df (K : PySem.W.Frag) (mg : Str → Option Value) (x : Str) (st : Stmt) : Prop := ∃ (f : Addr) (fd : FuncData), mg x = some (.ref f) ∧ Fun K x x st f fd
/-- the built-in names are the built-ins -/
structure Blt (mg : Str → Option Value) : Prop where
  len_ : mg "len" = none
  isinstance_ : mg "isinstance" = none
  int_ : mg "int" = none
  bool_ : mg "bool" = none
  str_ : mg "str" = none
  list_ : mg "list" = none
  tuple_ : mg "tuple" = none
  dict_ : mg "dict" = none
  set_ : mg "set" = none
  range_ : mg "range" = none
  enumerate_ : mg "enumerate" = none
  zip_ : mg "zip" = none
  repr_ : mg "repr" = none
  max_ : mg "max" = none
  min_ : mg "min" = none
  all_ : mg "all" = none
  any_ : mg "any" = none
  sum_ : mg "sum" = none
  sorted_ : mg "sorted" = none
  abs_ : mg "abs" = none
theorem boot_len : bootBuiltins "len" = some (.builtin "len") := PySem.boot_len
theorem boot_min : bootBuiltins "min" = some (.builtin "min") := by decide +kernel
theorem boot_max : bootBuiltins "max" = some (.builtin "max") := by decide +kernel
theorem boot_all : bootBuiltins "all" = some (.builtin "all") := by decide +kernel
theorem boot_any : bootBuiltins "any" = some (.builtin "any") := by decide +kernel
theorem boot_sum : bootBuiltins "sum" = some (.builtin "sum") := by decide +kernel
/-- a promise that nobody can call upon: for the branch that is never walked -/
def spNo : Sp := fun _ _ _ _ => False
theorem okNo {P : Program} {w : World} {K : PySem.W.Frag} {mg : Str → Option Value} {base : Heap} {CX : CXT} {x : Str} {st : Stmt} {ps : List Str} (D : Df K mg x st)
    (b : ∀ fd f, Fun K x x st f fd → Binds K fd ps []) : Ok P w K mg base CX 0 x ps spNo := by
  obtain ⟨f, fd, hm, F⟩ := D
  exact ⟨f, fd, hm, F.kp, b _ _ F, ⟨fun _ _ _ _ h => h.elim, fun _ _ _ _ _ _ _ _ _ _ _ _ _ h => h.elim⟩, F.lk⟩
theorem pe_ty {X : Cx} {x : Str} {T : String} {pos : Pos} (hm : X.mg x = none) (hv : bootBuiltins x = some (.type T)) (hg : Gl X x := by rfl) (hn : x ≠ "__name__" := by decide) (hd : (x == ("__debug__" : Str)) = false := by decide) :
    PE X (.Name x pos) (tC (.ty T)) := pe_bltn hg hm hv (show RelV (.ty T) (.type T) from rfl) hn hd
/-! ### picks and members -/
theorem Pick.mem {a : Addr} {o : HO} {L R : Lg} (h : Pick a o L R) : (a, o) ∈ L := h.perm.mem_iff.mpr (.head _)
theorem Pick.of_mem {a : Addr} {o : HO} : ∀ {L : Lg}, (a, o) ∈ L → ∃ R, Pick a o L R
  | _ :: L, h => by
    cases h with
    | head => exact ⟨_, .head⟩
    | tail _ h => obtain ⟨R, p⟩ := Pick.of_mem h; exact ⟨_, p.tail⟩
/-- the type's name of a value -/
inductive HasTy (L : Lg) : V → String → Prop where
  | non : HasTy L .non "NoneType"
  | bl (b : Bool) : HasTy L (.bl b) "bool"
  | int (i : Int) : HasTy L (.int i) "int"
  | str (z : Str) : HasTy L (.str z) "str"
  | lst {a : Addr} {xs : List V} : (a, .lst xs) ∈ L → HasTy L (.ref a) "list"
  | tup {a : Addr} {xs : List V} : (a, .tup xs) ∈ L → HasTy L (.ref a) "tuple"
  | dct {a : Addr} {kvs : List (Key × V)} : (a, .dK kvs) ∈ L → HasTy L (.ref a) "dict"
theorem HasTy.mono {L M : Lg} {x : V} {T : String} (h : HasTy L x T) (s : ∀ p ∈ L, p ∈ M) : HasTy M x T := by
  cases h with
  | non => exact .non
  | bl b => exact .bl b
  | int i => exact .int i
  | str z => exact .str z
  | lst m => exact .lst (s _ m)
  | tup m => exact .tup (s _ m)
  | dct m => exact .dct (s _ m)
def tyNames : List String := ["NoneType", "bool", "int", "str", "list", "tuple", "dict"]
theorem HasTy.name {L : Lg} {x : V} {T : String} (h : HasTy L x T) : T ∈ tyNames := by cases h <;> decide +kernel
theorem HasTy.tyx {K : PySem.W.Frag} {L : Lg} {H : Hp} {x : V} {T : String} (h : HasTy L x T) (l : Led H L) : TyX K H x (.type T) := by
  cases h with
  | non => exact .base .non
  | bl b => exact .base (.bl b)
  | int i => exact .base (.int i)
  | str z => exact .base (.str z)
  | lst m => exact .base (.lst (l.has _ m))
  | tup m => exact .base (.tup (l.has _ m))
  | dct m => exact .base (.dK (l.has _ m))
/-- isinstance by the types' names -/
def isB (T C : String) : Bool := T == C || (T == "bool" && C == "int")
theorem kitB_isB {T C : String} (h : T ∈ tyNames) (hc : C ∈ tyNames) : kitB T C = some (isB T C) := by
  have all : (tyNames.all fun T => tyNames.all fun C => decide (kitB T C = some (isB T C))) = true := by decide +kernel
  exact of_decide_eq_true (List.all_eq_true.mp (List.all_eq_true.mp all T h) C hc)
section
variable {L R : Lg} {Q : VK} {K : PySem.W.Frag} {x : V} {T : String}
theorem t_is {C : String} (h : HasTy L x T) (hc : C ∈ tyNames) (k : Tr L fun H => Q (.bl (isB T C)) H) : Tr L fun H => rIs K [x, .ty C] H Q :=
  fun H l => ⟨x, .ty C, _, _, _, rfl, .ty C, h.tyx l, kit_ty (kitB_isB h.name hc), k H l⟩
theorem kitBs_isB {T : String} (h : T ∈ tyNames) : ∀ Cs : List String, (∀ C ∈ Cs, C ∈ tyNames) → kitBs T Cs = some (Cs.any (isB T))
  | [], _ => rfl
  | C :: r, hc => by
    unfold kitBs
    rw [kitB_isB h (hc C (.head _)), List.any_cons]
    cases isB T C with
    | true => rfl
    | false => exact kitBs_isB h r fun D hD => hc D (.tail _ hD)
theorem t_isTs {Cs : List String} {tp : Addr} (hp : Pick tp (.tup (Cs.map V.ty)) L R) (h : HasTy L x T) (hc : ∀ C ∈ Cs, C ∈ tyNames) (k : Tr L fun H => Q (.bl (Cs.any (isB T))) H) : Tr L fun H => rIsT K [x, .ref tp] H Q :=
  fun H l => ⟨x, tp, _, _, _, _, rfl, l.get hp, cls_tys Cs, h.tyx l, kitBs_any (kitBs_isB h.name Cs hc), k H l⟩
end
/-! ### data -/
mutual
inductive Dt (L : Lg) : V → PyData → Prop where
  | non : Dt L .non .none
  | bl (b : Bool) : Dt L (.bl b) (.bool b)
  | int (i : Int) : Dt L (.int i) (.int i)
  | str (z : Str) : Dt L (.str z) (.str z)
  | lst {a : Addr} {xs : List V} {ds : List PyData} : (a, .lst xs) ∈ L → DtAll L xs ds → Dt L (.ref a) (.list ds)
  | tup {a : Addr} {xs : List V} {ds : List PyData} : (a, .tup xs) ∈ L → DtAll L xs ds → Dt L (.ref a) (.tuple ds)
inductive DtAll (L : Lg) : List V → List PyData → Prop where
  | nil : DtAll L [] []
  | cons {x : V} {xs : List V} {d : PyData} {ds : List PyData} : Dt L x d → DtAll L xs ds → DtAll L (x :: xs) (d :: ds)
end
mutual
theorem Dt.mono {L M : Lg} (s : ∀ p ∈ L, p ∈ M) : ∀ {x : V} {d : PyData}, Dt L x d → Dt M x d
  | _, _, .non => .non
  | _, _, .bl b => .bl b
  | _, _, .int i => .int i
  | _, _, .str z => .str z
  | _, _, .lst m h => .lst (s _ m) (DtAll.mono s h)
  | _, _, .tup m h => .tup (s _ m) (DtAll.mono s h)
theorem DtAll.mono {L M : Lg} (s : ∀ p ∈ L, p ∈ M) : ∀ {xs : List V} {ds : List PyData}, DtAll L xs ds → DtAll M xs ds
  | _, _, .nil => .nil
  | _, _, .cons h r => .cons (Dt.mono s h) (DtAll.mono s r)
end
mutual
theorem Dt.dp {K : PySem.W.Frag} {L : Lg} {H : Hp} (l : Led H L) : ∀ {x : V} {d : PyData}, Dt L x d → Dp K H x d
  | _, _, .non => .non
  | _, _, .bl b => .bl b
  | _, _, .int i => .int i
  | _, _, .str z => .str z
  | _, _, .lst m h => .lst (.inl (.inl (l.has _ m))) (DtAll.dp l h)
  | _, _, .tup m h => .tup (.inl (.inl (l.has _ m))) (DtAll.dp l h)
theorem DtAll.dp {K : PySem.W.Frag} {L : Lg} {H : Hp} (l : Led H L) : ∀ {xs : List V} {ds : List PyData}, DtAll L xs ds → DpAll K H xs ds
  | _, _, .nil => .nil
  | _, _, .cons h r => .cons (Dt.dp l h) (DtAll.dp l r)
end
theorem Dt.dpl {K : PySem.W.Frag} {L : Lg} {x : V} {d : PyData} (h : Dt L x d) : DpL K L x d := fun _ l => h.dp l
theorem DtAll.len {L : Lg} : ∀ {xs : List V} {ds : List PyData}, DtAll L xs ds → xs.length = ds.length
  | _, _, .nil => rfl
  | _, _, .cons _ r => by rw [List.length_cons, List.length_cons, r.len]
theorem DtAll.get {L : Lg} : ∀ {xs : List V} {ds : List PyData} {i : Nat} {x : V}, DtAll L xs ds → xs[i]? = some x → ∃ d, ds[i]? = some d ∧ Dt L x d
  | _, _, 0, _, .cons h _, e => by cases e; exact ⟨_, rfl, h⟩
  | _, _, i + 1, _, .cons _ r, e => r.get (i := i) (by simpa using e)
theorem DtAll.ints {L : Lg} : ∀ ns : List Int, DtAll L (ns.map V.int) (ns.map PyData.int)
  | [] => .nil
  | n :: r => .cons (.int n) (DtAll.ints r)
theorem Dt.ints {L : Lg} {a : Addr} {ns : List Int} (h : (a, .lst (ns.map V.int)) ∈ L) : Dt L (.ref a) (.list (ns.map PyData.int)) := .lst h (.ints ns)
theorem Dt.intsT {L : Lg} {a : Addr} {ns : List Int} (h : (a, .tup (ns.map V.int)) ∈ L) : Dt L (.ref a) (.tuple (ns.map PyData.int)) := .tup h (.ints ns)
theorem DtAll.bools {L : Lg} : ∀ bs : List Bool, DtAll L (bs.map V.bl) (bs.map PyData.bool)
  | [] => .nil
  | n :: r => .cons (.bl n) (DtAll.bools r)
mutual
/-- no list of it is longer than a list may be -/
def wide : PyData → Bool
  | .list ds | .tuple ds => decide (ds.length ≤ 100000) && wideAll ds
  | _ => true
def wideAll : List PyData → Bool
  | [] => true
  | d :: r => wide d && wideAll r
end
theorem wideAll_mem : ∀ {ds : List PyData} {d : PyData}, wideAll ds = true → d ∈ ds → wide d = true
  | e :: r, d, h, m => by
    rw [wideAll, Bool.and_eq_true] at h
    rcases List.mem_cons.mp m with rfl | m
    · exact h.1
    · exact wideAll_mem h.2 m
theorem wideAll_ints : ∀ ns : List Int, wideAll (ns.map PyData.int) = true
  | [] => by simp only [List.map_nil, wideAll]
  | n :: r => by simp only [List.map_cons, wideAll, wide, wideAll_ints r, Bool.and_self]
theorem wide_ints {ns : List Int} (h : ns.length ≤ 100000) : wide (.list (ns.map PyData.int)) = true := by
  rw [wide, wideAll_ints, List.length_map, decide_eq_true h]; rfl
theorem wide_intsT {ns : List Int} (h : ns.length ≤ 100000) : wide (.tuple (ns.map PyData.int)) = true := by
  rw [wide, wideAll_ints, List.length_map, decide_eq_true h]; rfl
def dtName : PyData → String
  | .none => "NoneType" | .bool _ => "bool" | .int _ => "int" | .str _ => "str" | .list _ => "list" | .tuple _ => "tuple" | .dict _ => "dict"
theorem Dt.ty {L : Lg} {x : V} {d : PyData} (h : Dt L x d) : HasTy L x (dtName d) := by
  cases h with
  | non => exact .non
  | bl b => exact .bl b
  | int i => exact .int i
  | str z => exact .str z
  | lst m _ => exact .lst m
  | tup m _ => exact .tup m
end Hz
namespace Hz
open PySem PySem.Spec PyProof.Rows L2 RZ
section
variable {L R' : Lg} {σ σ0 : SS} {g : TG} {tt : TT} {te : TE} {vs : List Nat} {Q : VK}
theorem take_more {α : Type} {R : List α} {i : Nat} {v : α} (h : R[i]? = some v) : R.take (i + 1) = R.take i ++ [v] := by
  rw [List.take_add_one, h]; rfl
/-- a comprehension that keeps every item, its elements told by a list -/
def lcMp (L : Lg) (R : List V) (D : Addr) (i : Nat) : Hp → Prop := lcNx (fun _ (_ : Unit) => L) (fun i _ => R.take i) (fun _ _ => True) D i
theorem t_lcMp {D : Addr} {i : Nat} {v : V} {R : List V} {M : Lg} {R2 : Lg} (hp : Pick D (.lst (R.take i)) M R2) (hv : R[i]? = some v) (hz : R.length ≤ sizeLine) (hM : Sub R2 L) : Tr M fun H => lcAdd D (lcMp L R D (i + 1)) v H := by
  refine t_lcAdd () trivial hp ?_ (take_more hv).symm hM
  have := (List.getElem?_eq_some_iff.mp hv).1
  rw [List.length_take]
  omega
theorem t_lcMap {J : It} {n : Nat} {val : Nat → V → Lg → Prop} {Src : Lg → Prop} (wk : Wk J n val Src) (hw : wipe σ vs = σ0) (R : List V) (hR : R.length = n) (hsrc : ∀ x, Src (x :: L))
    (hs : ∀ D i v L', i < n → val i v L' → Tr (L' ++ (D, .lst (R.take i)) :: L) fun H => g v σ0 H fun σ2 H2 => wipe σ2 vs = σ0 ∧ tt σ2 H2 fun b H3 => if b = true then te σ2 H3 (lcAdd D (lcMp L R D (i + 1))) else lcMp L R D (i + 1) H3)
    (hd : ∀ D, Tr ((D, .lst R) :: L) fun H => Q (.ref D) H) : Tr L fun H => lcK g tt te vs σ Q J H :=
  t_lcK wk hw (fun _ (_ : Unit) => L) (fun i _ => R.take i) (fun _ _ => True) ⟨(), trivial, rfl, .refl⟩ (fun D i y _ => hsrc _) (fun D i y v L' hi _ hv => hs D i v L' hi hv) fun D y _ => by
    rw [show R.take n = R from List.take_of_length_le (by omega)]
    exact hd D
theorem InL.cons {a : Addr} {xs : List V} {x : Addr × HO} (h : InL a xs L) : InL a xs (x :: L) := let ⟨_, p⟩ := h; ⟨_, p.tail⟩
theorem InT.cons {a : Addr} {xs : List V} {x : Addr × HO} (h : InT a xs L) : InT a xs (x :: L) := let ⟨_, p⟩ := h; ⟨_, p.tail⟩
theorem InL.of {a : Addr} {xs : List V} (h : (a, .lst xs) ∈ L) : InL a xs L := Pick.of_mem h
theorem InT.of {a : Addr} {xs : List V} (h : (a, .tup xs) ∈ L) : InT a xs L := Pick.of_mem h
/-- a list's text in the ledger is told otherwise -/
theorem Tr.lcast {a : Addr} {xs ys : List V} {G : Hp → Prop} (e : xs = ys) (t : Tr ((a, .lst ys) :: L) G) : Tr ((a, .lst xs) :: L) G := by rw [e]; exact t
end
end Hz
namespace Hz
open PySem PySem.Spec PyProof.Rows L2 RZ
section
variable {K : PySem.W.Frag} {h : Heap} {mg : Str → Option Value}
/-- a def as the head tells it -/
theorem df_mk (X : K.In h) (G : h.Ns mainGlobals mg) {x : Str} {st : Stmt} {f : Addr} {od an : Option Addr} {sl : Array (Option Value)} {oc kV dc pm cd ct : Value}
    (a : PySem.W.nsIn K mainGlobals x = some (some (.ref f))) (l : K.lookup f = some ⟨oc, od, .func (PySem.W.fnOf x x (defArgs st) (defBody st) (defScope st) .none kV dc pm an cd ct), sl⟩)
    (c : PySem.W.codeIn K cd x = true) (k : PySem.W.keepIn K (.ref f) = true) : Df K mg x st := ⟨f, _, PySem.W.mg_of X G a, fun_mk l c k⟩
theorem gv_mk (X : K.In h) (G : h.Ns mainGlobals mg) {x : Str} {v : V} {u : Value} (a : PySem.W.nsIn K mainGlobals x = some (some u)) (r : RelV v u) : GV mg x v := ⟨u, PySem.W.mg_of X G a, r⟩
theorem no_mk (X : K.In h) (G : h.Ns mainGlobals mg) {x : Str} (a : PySem.W.nsIn K mainGlobals x = some none) : mg x = none := PySem.W.mg_none_of X G a
end
end Hz

namespace Hz
open PySem PySem.Spec PyProof.Rows L2 RZ
/-! ### keywords -/
/-- the values by place, if they are m and n -/
def gP {α : Type} (m n : Nat) (is : List Nat) (us ws : List α) : List α := bif us.length == m && ws.length == n then is.filterMap fun i => (us ++ ws)[i]? else []
theorem vals_get {vs : List V} {us : List Value} (r : Vals vs us) : ∀ i : Nat, (∃ v u, vs[i]? = some v ∧ us[i]? = some u ∧ RelV v u) ∨ (vs[i]? = none ∧ us[i]? = none) := by
  induction r with
  | nil => intro i; exact .inr ⟨rfl, rfl⟩
  | cons h _ ih =>
    intro i
    cases i with
    | zero => exact .inl ⟨_, _, rfl, rfl, h⟩
    | succ i => simpa using ih i
theorem gP_rel (m n : Nat) (is : List Nat) {vs : List V} {us : List Value} {zs : List V} {ws : List Value} (r : Vals vs us) (q : Vals zs ws) : Vals (gP m n is vs zs) (gP m n is us ws) := by
  unfold gP
  rw [r.length, q.length]
  cases (us.length == m && ws.length == n) with
  | false => exact .nil
  | true =>
    have a := vals_get (r.append q)
    simp only [cond_true]
    induction is with
    | nil => exact .nil
    | cons i is ih =>
      rw [List.filterMap_cons, List.filterMap_cons]
      rcases a i with ⟨v, u, h1, h2, h3⟩ | ⟨h1, h2⟩
      · rw [h1, h2]; exact .cons h3 ih
      · rw [h1, h2]; exact ih
def tCallGK (sp : Sp) (m n : Nat) (is : List Nat) (E : L2.St → XK) (t tk : TA) : TE := fun σ H Q => t σ H fun vs H1 => tk σ H1 fun zs H2 => sp (gP m n is vs zs) H2 Q (E σ)
section
variable {X : Cx} {CX : CXT} {k : Nat} {ps ks : List Str} {sp : Sp} {E : L2.St → XK} {x : Str} {p pos : Pos} {e : Expr} {es : List Expr} {kws : List Keyword} {t tk : TA} {st : Stmt} {m n : Nat} {is : List Nat}
theorem run_GK {pins : List (Addr × Obj)} {σ : L2.St} {H : Hp} {s : Shared} {Q : VK} {us ws : List Value} {vs zs : List V} {f : Addr} {fd : FuncData} (F : FnG X.prog X.w X.K X.mg X.base CX k f fd ps sp) (hr : RoomG k X.A)
    (hb : (gP m n is us ws).length = ps.length → BindsTo s fd ⟨us, ks.zip ws⟩ (ps.zip (gP m n is us ws))) (hx : PassesAt CX X σ (E σ)) (I : Inv X pins σ H s) (r : Vals vs us) (rz : Vals zs ws) (h : sp (gP m n is vs zs) H Q (E σ)) :
    wpAny (model X.prog X.w) X.A (call (.ref f) us (ks.zip ws)) (EP X pins σ Q) X.xe s := by
  have r2 := gP_rel m n is r rz
  have hl : (gP m n is us ws).length = ps.length := by rw [← r2.length]; exact F.len _ _ _ _ h
  refine wpAny_call (codeAny_mono (F.run X.A X.stack s H ⟨us, ks.zip ws⟩ _ _ Q (E σ) hr I.env0 (hb hl) r2 h) fun r s' hq => ?_)
  match r, hq with
  | .error e, hq => exact hx pins H s e s' I hq
  | .ok (.ret u), hq => exact I.after hq
  | .ok .next, hq => exact hq.elim
  | .ok .brk, hq => exact hq.elim
  | .ok .cont, hq => exact hq.elim
theorem gP_shape {α : Type} {us ws : List α} {k : Nat} (h : (gP m n is us ws).length = k + 1) : us.length = m ∧ ws.length = n := by
  unfold gP at h
  cases e : (us.length == m && ws.length == n) with
  | true =>
    rw [Bool.and_eq_true, beq_iff_eq, beq_iff_eq] at e
    exact e
  | false => rw [e] at h; cases h
/-- f(e, .., a = v, ..) -/
theorem pe_callGK (D : Df X.K X.mg x st) (F : Ok X.prog X.w X.K X.mg X.base CX k x ps sp) (hr : RoomG k X.A) (hx : ∀ σ, PassesAt CX X σ (E σ)) (m n : Nat) (is : List Nat) (ks : List Str) (hps : ∃ k, ps.length = k + 1)
    (hb : ∀ (kV doc pm : Value) (an : Option Addr) (cdv ct : Value) (us ws : List Value), us.length = m → ws.length = n → bindArgs (PySem.W.fnOf x x (defArgs st) (defBody st) (defScope st) .none kV doc pm an cdv ct) ⟨us, ks.zip ws⟩ = pure (ps.zip (gP m n is us ws)))
    (ha : PA X (e :: es) t) (hkw : PK X kws tk) (hg : Gl X x := by rfl) (hall : (backToKw pos (keywordEach kws X.env)).all (·.1.isSome) = true := by rfl) (hks : (backToKw pos (keywordEach kws X.env)).filterMap (·.1) = ks := by rfl)
    (hdb : (x == ("__debug__" : Str)) = false := by decide) (he : starEach (e :: es) X.env = (false, eval e X.env) :: starEach es X.env := by rfl)
    (hpl : ((backTo pos (starEach (e :: es) X.env)).any (·.1) || (backToKw pos (keywordEach kws X.env)).any (·.1.isNone)) = false := by rfl) : PE X (.Call (.Name x p) (e :: es) kws pos) (tCallGK sp m n is E t tk) := by
  obtain ⟨f, fd, hm, hk, _, F, oc, od, osl, lk⟩ := F
  obtain ⟨f', fd', hm', G⟩ := D
  obtain ⟨oc', od', kV, doc, pm, an, cdv, ct, osl', rfl, lk', hcd⟩ := G.ex
  rw [hm] at hm'
  cases hm'
  rw [lk] at lk'
  cases lk'
  refine ⟨fun pins s σ H Q I h => wpAny_Call_Name_kw (ld_glob I hg hm (PySem.W.callWith_KW (h₀ := X.base) I.ok.mod.kin hk hall ?_ hpl he) hdb)⟩
  refine thn (ha.run pos pins s σ H _ I h) fun us s1 ⟨vs, H1, I1, r, q⟩ => ?_
  refine thn (hkw.run pos pins s1 σ H1 _ I1 q) fun ws s2 ⟨zs, H2, I2, rz, q2⟩ => ⟨I2.kIn, ?_⟩
  rw [hks]
  refine run_GK F hr (fun hl => ?_) (hx σ) I2 r rz q2
  obtain ⟨k, ek⟩ := hps
  obtain ⟨h1, h2⟩ := gP_shape (hl.trans ek)
  exact .of_eq (hb kV doc pm an cdv ct us ws h1 h2)
/-- f(a = v, ..) -/
theorem pe_callGK0 (D : Df X.K X.mg x st) (F : Ok X.prog X.w X.K X.mg X.base CX k x ps sp) (hr : RoomG k X.A) (hx : ∀ σ, PassesAt CX X σ (E σ)) (n : Nat) (is : List Nat) (ks : List Str) (hps : ∃ k, ps.length = k + 1)
    (hb : ∀ (kV doc pm : Value) (an : Option Addr) (cdv ct : Value) (us ws : List Value), us.length = 0 → ws.length = n → bindArgs (PySem.W.fnOf x x (defArgs st) (defBody st) (defScope st) .none kV doc pm an cdv ct) ⟨us, ks.zip ws⟩ = pure (ps.zip (gP 0 n is us ws)))
    (hkw : PK X kws tk) (hg : Gl X x := by rfl) (hall : (backToKw pos (keywordEach kws X.env)).all (·.1.isSome) = true := by rfl) (hks : (backToKw pos (keywordEach kws X.env)).filterMap (·.1) = ks := by rfl)
    (hdb : (x == ("__debug__" : Str)) = false := by decide)
    (hpl : ((backTo pos (starEach [] X.env)).any (·.1) || (backToKw pos (keywordEach kws X.env)).any (·.1.isNone)) = false := by rfl) : PE X (.Call (.Name x p) [] kws pos) (tCallGK sp 0 n is E tNil tk) := by
  obtain ⟨f, fd, hm, hk, _, F, oc, od, osl, lk⟩ := F
  obtain ⟨f', fd', hm', G⟩ := D
  obtain ⟨oc', od', kV, doc, pm, an, cdv, ct, osl', rfl, lk', hcd⟩ := G.ex
  rw [hm] at hm'
  cases hm'
  rw [lk] at lk'
  cases lk'
  refine ⟨fun pins s σ H Q I h => wpAny_Call_Name_kw (ld_glob I hg hm (PySem.W.callWith_KW0 (h₀ := X.base) I.ok.mod.kin hk hall ?_ hpl) hdb)⟩
  refine thn (hkw.run pos pins s σ H _ I h) fun ws s2 ⟨zs, H2, I2, rz, q2⟩ => ⟨I2.kIn, ?_⟩
  rw [hks]
  refine run_GK (us := []) F hr (fun hl => ?_) (hx σ) I2 .nil rz q2
  obtain ⟨k, ek⟩ := hps
  obtain ⟨h1, h2⟩ := gP_shape (hl.trans ek)
  exact .of_eq (hb kV doc pm an cdv ct [] ws h1 h2)
end
section
variable {L : Lg} {σ : SS} {Q : VK} {t tk : TA} {sp : Sp} {E : SS → XK} {m n : Nat} {is : List Nat}
theorem t_callGK (k : Tr L fun H => t σ H fun vs H1 => tk σ H1 fun zs H2 => sp (gP m n is vs zs) H2 Q (E σ)) : Tr L fun H => tCallGK sp m n is E t tk σ H Q := k
end
end Hz

/-! Hz, part O: lists of ints, their texts; numbers' sizes. -/
namespace Hz
open PySem PySem.Spec PyProof.Rows L2 RZ
/-! ### sizes -/
theorem bits_le {i : Int} {N : Nat} (h0 : 1 ≤ N) (h : i.natAbs < 2 ^ N) : Builtin.Int.intBits i ≤ N := by
  have := PySem.Flt.log2_lt_of h0 h
  unfold Builtin.Int.intBits
  split <;> omega
theorem natAbs_lt {i : Int} {b : Nat} (h1 : -(b : Int) < i) (h2 : i < b) : i.natAbs < b := by omega
theorem pow_ok {i j : Int} (N : Nat) (h0 : 1 ≤ N) (h1 : i.natAbs < 2 ^ N) (h2 : 0 ≤ j) (h3 : (N : Int) * j ≤ 134217728) : cPow i j := by
  refine ⟨h2, ?_⟩
  have h := bits_le h0 h1
  have h4 : (Builtin.Int.intBits i : Int) * j ≤ (N : Int) * j := Int.mul_le_mul_of_nonneg_right (by omega) h2
  have e : (2 : Int) ^ 27 = 134217728 := by decide
  rw [e]; omega
theorem mul_ok {i j : Int} (M N : Nat) (h0 : 1 ≤ M) (h1 : 1 ≤ N) (hi : i.natAbs < 2 ^ M) (hj : j.natAbs < 2 ^ N) (h : M + N ≤ 1000000) : cMul i j := .inr (.inr (wide_mul hi hj h0 h1 h))
theorem div_ok {i j : Int} (N : Nat) (h0 : 1 ≤ N) (h1 : 0 < j) (h2 : j.natAbs < 2 ^ N) (h : N ≤ 9000) : CDivW i j := wide_div h1 h2 h0 h
/-! ### lists of ints by place -/
theorem at_mem {ns : List Int} {i : Int} (h0 : 0 ≤ i) (h1 : i < ns.length) : ∃ n, atI (ns.map V.int) i = some (.int n) ∧ n ∈ ns ∧ ns[i.toNat]? = some n := by
  obtain ⟨j, rfl⟩ : ∃ j : Nat, i = (j : Int) := ⟨i.toNat, by omega⟩
  have hl : j < ns.length := by omega
  refine ⟨ns[j], atI_nat ?_, List.getElem_mem hl, by rw [Int.toNat_natCast, List.getElem?_eq_getElem hl]⟩
  rw [List.getElem?_map, List.getElem?_eq_getElem hl]; rfl
theorem at_int {ns : List Int} {i : Nat} {n : Int} (h : ns[i]? = some n) : atI (ns.map V.int) (i : Int) = some (.int n) := atI_nat (get_mapI h)
where get_mapI {ns : List Int} {i : Nat} {n : Int} (h : ns[i]? = some n) : (ns.map V.int)[i]? = some (.int n) := by rw [List.getElem?_map, h]; rfl
theorem at_lastI (ns : List Int) (n : Int) : atI ((ns ++ [n]).map V.int) (-1) = some (.int n) := by
  rw [List.map_append]; exact atI_last _ _
/-! ### chains -/
def chainI : Int → List Int → Prop
  | _, [] => True
  | b, d :: r => 0 ≤ d ∧ d ≤ b + 1 ∧ chainI d r
def lastD (b : Int) : List Int → Int
  | [] => b
  | d :: r => lastD d r
theorem chainI_append : ∀ (b : Int) (xs ys : List Int), chainI b (xs ++ ys) ↔ chainI b xs ∧ chainI (lastD b xs) ys
  | b, [], ys => by simp [chainI, lastD]
  | b, d :: r, ys => by
    show (0 ≤ d ∧ d ≤ b + 1 ∧ chainI d (r ++ ys)) ↔ (0 ≤ d ∧ d ≤ b + 1 ∧ chainI d r) ∧ chainI (lastD d r) ys
    rw [chainI_append d r ys]
    constructor
    · rintro ⟨h1, h2, h3, h4⟩; exact ⟨⟨h1, h2, h3⟩, h4⟩
    · rintro ⟨⟨h1, h2, h3⟩, h4⟩; exact ⟨h1, h2, h3, h4⟩
theorem lastD_append : ∀ (b : Int) (xs : List Int) (d : Int), lastD b (xs ++ [d]) = d
  | _, [], _ => rfl
  | _, e :: r, d => lastD_append e r d
theorem chainI_bounds : ∀ (b : Int) (xs : List Int), chainI b xs → ∀ (i : Nat) (d : Int), xs[i]? = some d → 0 ≤ d ∧ d ≤ b + 1 + i
  | b, e :: r, h, 0, d, q => by
    cases q
    exact ⟨h.1, by have := h.2.1; omega⟩
  | b, e :: r, h, i + 1, d, q => by
    have := chainI_bounds e r h.2.2 i d (by simpa using q)
    have := h.2.1
    omega
theorem chainI_take : ∀ (b : Int) (xs : List Int) (n : Nat), chainI b xs → chainI b (xs.take n)
  | _, [], n, _ => by rw [List.take_nil]; trivial
  | _, _ :: _, 0, _ => trivial
  | _, d :: r, n + 1, h => ⟨h.1, h.2.1, chainI_take d r n h.2.2⟩
/-! ### the text of a list of ints -/
def reprI (ns : List Int) : Str := (PyData.list (ns.map PyData.int)).shown
theorem shownAll_map (ns : List Int) : PyData.shownAll (ns.map PyData.int) = ns.map fun n => (toString n : Str) := by
  induction ns with
  | nil => simp only [List.map_nil, PyData.shownAll]
  | cons n r ih => simp only [List.map_cons, PyData.shownAll, PyData.shown, ih]
theorem showableAll_map {ns : List Int} (h : ∀ n ∈ ns, n.natAbs < 2 ^ 1000) : PyData.showableAll (ns.map PyData.int) = true := by
  induction ns with
  | nil => simp only [List.map_nil, PyData.showableAll]
  | cons n r ih =>
    have := PySem.Flt.log2_lt_of (by decide : 0 < 1000) (h n (.head _))
    simp only [List.map_cons, PyData.showableAll, PyData.showable, ih fun m hm => h m (.tail _ hm), Bool.and_true, decide_eq_true_eq]
    omega
theorem int_len {n : Int} (h : n.natAbs < 2 ^ 1000) : ((toString n : Str)).length ≤ 1001 := by
  rw [PySem.ofString_length]
  exact int_text_length_le (by decide) (PySem.Flt.log2_lt_of (by decide : 0 < 1000) h)
theorem sum_le_len : ∀ (l : List Nat) (k : Nat), (∀ x ∈ l, x ≤ k) → l.sum ≤ l.length * k
  | [], _, _ => by simp
  | x :: r, k, h => by
    have h1 := sum_le_len r k fun y hy => h y (.tail _ hy)
    have h2 := h x (.head _)
    rw [List.sum_cons, List.length_cons, Nat.add_mul]
    omega
theorem reprI_len {ns : List Int} (h : ∀ n ∈ ns, n.natAbs < 2 ^ 1000) (hl : ns.length ≤ 16000) : (reprI ns).length ≤ sizeLine := by
  have h1 := listText_len_le (PyData.shownAll (ns.map PyData.int))
  have h2 : ((PyData.shownAll (ns.map PyData.int)).map (·.length)).sum ≤ ns.length * 1001 := by
    rw [shownAll_map, List.map_map]
    have := sum_le_len (ns.map ((fun x : Str => x.length) ∘ fun n : Int => (toString n : Str))) 1001 (fun x hx => by
      obtain ⟨n, hn, rfl⟩ := List.mem_map.mp hx
      exact int_len (h n hn))
    rwa [List.length_map] at this
  have h3 : (PyData.shownAll (ns.map PyData.int)).length = ns.length := by rw [shownAll_map, List.length_map]
  unfold reprI
  rw [PyData.shown, sizeLine_eq]
  omega
theorem depthAll_ints : ∀ ns : List Int, PyData.depthAll (ns.map PyData.int) = 0
  | [] => by simp only [List.map_nil, PyData.depthAll]
  | n :: r => by simp only [List.map_cons, PyData.depthAll, PyData.depth, depthAll_ints r, Nat.max_self]
theorem t_reprI {K : PySem.W.Frag} {L : Lg} {Q : VK} {a : Addr} {ns : List Int} (hm : (a, .lst (ns.map V.int)) ∈ L) (h : ∀ n ∈ ns, n.natAbs < 2 ^ 1000) (hl : ns.length ≤ 16000)
    (k : Tr L fun H => Q (.str (reprI ns)) H) : Tr L fun H => rRepr K [.ref a] H Q :=
  t_repr (Dt.ints hm).dpl (by simp only [PyData.showable]; exact showableAll_map h) (by simp only [PyData.depth, depthAll_ints]; decide) (reprI_len h hl) k
/-- == of two lists of ints -/
theorem eqv_ints : ∀ (xs ys : List Int), PyData.eqv (.list (xs.map PyData.int)) (.list (ys.map PyData.int)) = decide (xs = ys) := by
  have all : ∀ (xs ys : List Int), PyData.eqvAll (xs.map PyData.int) (ys.map PyData.int) = decide (xs = ys) := by
    intro xs
    induction xs with
    | nil => intro ys; cases ys <;> simp [PyData.eqvAll]
    | cons x r ih =>
      intro ys
      cases ys with
      | nil => simp [PyData.eqvAll]
      | cons y s => simp only [List.map_cons, PyData.eqvAll, PyData.eqv, ih, List.cons.injEq, Bool.decide_and]; rfl
  intro xs ys
  simp only [PyData.eqv, all]
theorem shaped_ints (ns : List Int) : SeqAt.shaped (.list (ns.map PyData.int)) = true := by
  have c : ∀ ns : List Int, PyData.canLayAll0 (ns.map PyData.int) = true := by
    intro ns
    induction ns with
    | nil => simp [PyData.canLayAll0]
    | cons n r ih => simp [PyData.canLayAll0, PyData.canLay0, ih]
  unfold SeqAt.shaped
  simp [PyData.canLay0, c, PyData.depth, depthAll_ints]
theorem t_eqInts {K : PySem.W.Frag} {L : Lg} {Q : VK} {a b : Addr} {xs ys : List Int} (ha : (a, .lst (xs.map V.int)) ∈ L) (hb : (b, .lst (ys.map V.int)) ∈ L) (k : Tr L fun H => Q (.bl (decide (xs = ys))) H) : Tr L fun H => rEqD K (.ref a) (.ref b) H Q :=
  t_eqD (Dt.ints ha).dpl (Dt.ints hb).dpl (shaped_ints xs) (shaped_ints ys) (by rw [eqv_ints]; exact k)
end Hz
namespace Hz
open PySem PySem.Spec PyProof.Rows L2 RZ
theorem at_lastD {ns : List Int} (b : Int) (h : 1 ≤ ns.length) : atI (ns.map V.int) (-1) = some (.int (lastD b ns)) := by
  obtain ⟨l, x, rfl⟩ : ∃ l x, ns = l ++ [x] := ⟨ns.dropLast, ns.getLast (by intro e; subst e; simp at h), (List.dropLast_concat_getLast _).symm⟩
  rw [lastD_append]
  exact at_lastI l x
theorem lastD_bound : ∀ (b : Int) (ns : List Int), chainI b ns → 1 ≤ ns.length → 0 ≤ lastD b ns ∧ lastD b ns ≤ b + ns.length
  | b, [], _, h => by simp at h
  | b, [d], h, _ => by
    have := h.1; have := h.2.1
    show 0 ≤ d ∧ d ≤ b + ((1 : Nat) : Int)
    omega
  | b, d :: e :: r, h, _ => by
    have ih := lastD_bound d (e :: r) h.2.2 (by simp)
    have := h.2.1
    show 0 ≤ lastD d (e :: r) ∧ lastD d (e :: r) ≤ b + (((e :: r).length + 1 : Nat) : Int)
    omega
theorem map_snoc (ns : List Int) (n : Int) : ns.map V.int ++ [V.int n] = (ns ++ [n]).map V.int := by rw [List.map_append]; rfl
end Hz
namespace Hz
open PySem PySem.Spec PyProof.Rows L2 RZ
theorem depthAll_le : ∀ {ds : List PyData} {d : PyData}, d ∈ ds → d.depth ≤ PyData.depthAll ds
  | e :: r, d, h => by
    rw [PyData.depthAll]
    rcases List.mem_cons.mp h with rfl | h
    · exact Nat.le_max_left _ _
    · exact Nat.le_trans (depthAll_le h) (Nat.le_max_right _ _)
end Hz
namespace Hz
open PySem PySem.Spec PyProof.Rows L2
/-- a, a + 1, .. below b -/
def rgI (a b : Int) : List Int := (List.range (b - a).toNat).map fun i => a + (i : Nat)
theorem rgV_ints (a b : Int) : rgV a b = (rgI a b).map V.int := by unfold rgV rgI; rw [List.map_map]; rfl
theorem rgI_len (a b : Int) : (rgI a b).length = (b - a).toNat := by unfold rgI; rw [List.length_map, List.length_range]
theorem rgI_get {a b : Int} {i : Nat} (h : i < (b - a).toNat) : (rgI a b)[i]? = some (a + i) := by
  unfold rgI
  rw [List.getElem?_map, List.getElem?_range h]; rfl
theorem rep_ints (k : Nat) (n : Int) : (List.replicate k [V.int n]).flatten = (List.replicate k n).map V.int := by
  induction k with
  | zero => rfl
  | succ k ih => rw [List.replicate_succ, List.flatten_cons, ih, List.replicate_succ, List.map_cons]; rfl
end Hz
namespace Hz
open PySem PySem.Spec PyProof.Rows L2 RZ
theorem last_get {ns : List Int} (b : Int) (h : 1 ≤ ns.length) : (ns.map V.int)[(ns.map V.int).length - 1]? = some (.int (lastD b ns)) := by
  obtain ⟨l, x, rfl⟩ : ∃ l x, ns = l ++ [x] := ⟨ns.dropLast, ns.getLast (by intro e; subst e; simp at h), (List.dropLast_concat_getLast _).symm⟩
  rw [lastD_append]
  simp
/-- xs.pop() of ints -/
theorem t_popI {L R : Lg} {Q : VK} {p : Addr} {ns : List Int} (hp : Pick p (.lst (ns.map V.int)) L R) (h : 1 ≤ ns.length) (k : Tr ((p, .lst (ns.dropLast.map V.int)) :: R) fun H => Q (.int (lastD (-1) ns)) H) : Tr L fun H => rPop (.ref p) [] H Q :=
  t_popM hp (last_get (-1) h) (Tr.lcast List.map_dropLast.symm k)
/-- xs.append(n) of ints -/
theorem t_appI {L R : Lg} {Q : VK} {p : Addr} {ns : List Int} {n : Int} (hp : Pick p (.lst (ns.map V.int)) L R) (h : ns.length < sizeLine) (k : Tr ((p, .lst ((ns ++ [n]).map V.int)) :: R) fun H => Q .non H) : Tr L fun H => rAppend (.ref p) [.int n] H Q :=
  t_append hp (by rw [List.length_map]; exact h) (Tr.lcast (map_snoc ns n) k)
end Hz
namespace Hz
open PySem PySem.Spec PyProof.Rows L2 RZ
/-! ### the law's own list, read -/
/-- wherever the ledger stands, the law's list is at a -/
def Scr (K : PySem.W.Frag) (L : Lg) (a : Addr) (ns : List Int) : Prop := ∀ H, Led H L → ScrL K H a (ns.map V.int)
theorem Scr.mono {K : PySem.W.Frag} {L M : Lg} {a : Addr} {ns : List Int} (h : Scr K L a ns) (s : ∀ {H}, Led H M → Led H L) : Scr K M a ns := fun H l => h H (s l)
theorem Scr.cons {K : PySem.W.Frag} {L : Lg} {x : Addr × HO} {a : Addr} {ns : List Int} (h : Scr K L a ns) : Scr K (x :: L) a ns := h.mono Led.tail
theorem scr_start {K : PySem.W.Frag} {H : Hp} {a : Addr} {ns : List Int} (h : ScrL K H a (ns.map V.int)) : ∃ L, Led H L ∧ Scr K L a ns := by
  obtain ⟨its, r, z, h | h⟩ := h
  · refine ⟨[(a, .frz { cls := .type "list", data := .seq its.toArray } (.lst (ns.map V.int)))], ⟨fun p hp => ?_, by simp⟩, fun H l => ⟨its, r, z, .inl (l.has _ (.head _))⟩⟩
    rw [List.mem_singleton.mp hp]
    exact h
  · exact ⟨[], .nil, fun H _ => ⟨its, r, z, .inr h⟩⟩
section
variable {L R : Lg} {Q : VK} {K : PySem.W.Frag} {a b : Addr} {ns : List Int} {ys : List V}
theorem t_lenSc (h : Scr K L a ns) (k : Tr L fun H => Q (.int ns.length) H) : Tr L fun H => rLen K [.ref a] H Q := fun H l => ⟨_, _, rfl, .inl ⟨_, (h H l).sq, by rw [List.length_map]⟩, k H l⟩
theorem t_catSc (h : Scr K L a ns) (hp : Pick b (.lst ys) L R) (hz : ns.length + ys.length ≤ sizeLine) (k : ∀ p, Tr ((p, .lst (ns.map V.int ++ ys)) :: L) fun H => Q (.ref p) H) : Tr L fun H => rCatS K (.ref a) (.ref b) H Q :=
  fun H l => ⟨a, b, _, ys, rfl, rfl, h H l, l.get hp, by rw [List.length_map]; exact hz, fun p hp' => k p _ (l.new hp')⟩
theorem t_slSc {lo hi : Option Int} (h : Scr K L a ns) (k : ∀ p, Tr ((p, .lst (cutV (ns.map V.int) lo hi)) :: L) fun H => Q (.ref p) H) : Tr L fun H => rSlL K (.ref a) lo hi H Q := fun H l => ⟨a, _, rfl, (h H l).sq, fun p hp' => k p _ (l.new hp')⟩
theorem t_ixSc {m : Int} {v : V} (h : Scr K L a ns) (ha : atI (ns.map V.int) m = some v) (k : Tr L fun H => Q v H) : Tr L fun H => rIxL K (.ref a) (.int m) H Q := fun H l => ⟨a, _, m, v, rfl, rfl, (h H l).sq, ha, k H l⟩
theorem dpl_sc (h : Scr K L a ns) : DpL K L (.ref a) (.list (ns.map PyData.int)) := fun H l => .lst (h H l).sq (dpAll_ints ns)
/-- script == [] -/
theorem t_eqSc {zs : List Int} (h : Scr K L a ns) (hb : (b, .lst (zs.map V.int)) ∈ L) (k : Tr L fun H => Q (.bl (decide (ns = zs))) H) : Tr L fun H => rEqD K (.ref a) (.ref b) H Q :=
  t_eqD (dpl_sc h) (Dt.ints hb).dpl (shaped_ints ns) (shaped_ints zs) (by rw [eqv_ints]; exact k)
theorem t_neSc {zs : List Int} (h : Scr K L a ns) (hb : (b, .lst (zs.map V.int)) ∈ L) (k : Tr L fun H => Q (.bl (!decide (ns = zs))) H) : Tr L fun H => rNeD K (.ref a) (.ref b) H Q :=
  t_neD (dpl_sc h) (Dt.ints hb).dpl (shaped_ints ns) (shaped_ints zs) (by rw [eqv_ints]; exact k)
end
/-- a slice of ints -/
def cutI (ns : List Int) (lo hi : Option Int) : List Int := (ns.drop (HT.sIx ns.length 0 lo)).take (HT.sIx ns.length ns.length hi - HT.sIx ns.length 0 lo)
theorem cut_ints (ns : List Int) (lo hi : Option Int) : cutV (ns.map V.int) lo hi = (cutI ns lo hi).map V.int := by
  unfold cutV cutI
  rw [List.length_map, List.map_take, List.map_drop]
theorem cutI_len (ns : List Int) (lo hi : Option Int) : (cutI ns lo hi).length ≤ ns.length := by
  unfold cutI
  rw [List.length_take, List.length_drop]; omega
theorem cutI_mem {ns : List Int} {lo hi : Option Int} {n : Int} (h : n ∈ cutI ns lo hi) : n ∈ ns := List.mem_of_mem_drop (List.mem_of_mem_take h)
end Hz

/-! Hz, part F: ints by place; filtered comprehensions; members; a list's places. -/
namespace Hz
open PySem PySem.Spec PyProof.Rows L2 RZ
/-! ### ints by place -/
/-- the i-th of ns -/
def atD (ns : List Int) (i : Int) : Int := ns.getD i.toNat 0
theorem atD_get {ns : List Int} {i : Int} (h0 : 0 ≤ i) (h1 : i < ns.length) : ns[i.toNat]? = some (atD ns i) := by
  unfold atD
  rw [List.getD_eq_getElem?_getD, List.getElem?_eq_getElem (by omega : i.toNat < ns.length)]; rfl
theorem atD_nat {ns : List Int} {i : Nat} {d : Int} (h : ns[i]? = some d) : atD ns (i : Int) = d := by
  unfold atD
  rw [Int.toNat_natCast, List.getD_eq_getElem?_getD, h]; rfl
theorem atD_at {ns : List Int} {i : Int} (h0 : 0 ≤ i) (h1 : i < ns.length) : atI (ns.map V.int) i = some (.int (atD ns i)) := by
  have h := atI_nat (α := V) (xs := ns.map V.int) (j := i.toNat) (v := .int (atD ns i)) (by rw [List.getElem?_map, atD_get h0 h1]; rfl)
  rwa [Int.toNat_of_nonneg h0] at h
theorem map_erase {α β : Type} {f : α → β} : ∀ (ns : List α) (k : Nat), (ns.eraseIdx k).map f = (ns.map f).eraseIdx k
  | [], _ => rfl
  | _ :: _, 0 => rfl
  | n :: r, k + 1 => by
    show f n :: (r.eraseIdx k).map f = f n :: (r.map f).eraseIdx k
    rw [map_erase r k]
theorem atD_mem {ns : List Int} {i : Int} (h0 : 0 ≤ i) (h1 : i < ns.length) : atD ns i ∈ ns := List.mem_of_getElem? (atD_get h0 h1)
section
variable {L R R' : Lg} {σ σ0 : SS} {Q : VK} {K : PySem.W.Frag} {a b p : Addr} {ns ms : List Int} {m n : Int}
theorem t_ixI (hp : Pick p (.lst (ns.map V.int)) L R) (h0 : 0 ≤ m) (h1 : m < ns.length) (k : Tr L fun H => Q (.int (atD ns m)) H) : Tr L fun H => rIxL K (.ref p) (.int m) H Q := t_ixL hp (atD_at h0 h1) k
theorem t_lenI (hp : Pick p (.lst (ns.map V.int)) L R) (k : Tr L fun H => Q (.int ns.length) H) : Tr L fun H => rLen K [.ref p] H Q := t_lenL hp (by rw [List.length_map]; exact k)
theorem t_slI {lo hi : Option Int} (hp : Pick a (.lst (ns.map V.int)) L R) (k : ∀ p, Tr ((p, .lst ((cutI ns lo hi).map V.int)) :: L) fun H => Q (.ref p) H) : Tr L fun H => rSlL K (.ref a) lo hi H Q := t_slL hp fun p => Tr.lcast (cut_ints ns lo hi) (k p)
theorem t_catI (hp : Pick a (.lst (ns.map V.int)) L R) (hq : Pick b (.lst (ms.map V.int)) L R') (hz : ns.length + ms.length ≤ sizeLine) (k : ∀ p, Tr ((p, .lst ((ns ++ ms).map V.int)) :: L) fun H => Q (.ref p) H) : Tr L fun H => rCat (.ref a) (.ref b) H Q :=
  t_cat hp hq (by rw [List.length_map, List.length_map]; exact hz) fun p => Tr.lcast List.map_append.symm (k p)
theorem t_revI (hp : Pick a (.lst (ns.map V.int)) L R) (k : ∀ p, Tr ((p, .lst (ns.reverse.map V.int)) :: L) fun H => Q (.ref p) H) : Tr L fun H => newRev K (.ref a) H Q := t_newRev hp fun p => Tr.lcast List.map_reverse.symm (k p)
theorem t_rgI {m n : Int} (h : RgOk m n) (k : ∀ p, Tr ((p, .lst ((rgI m n).map V.int)) :: L) fun H => Q (.ref p) H) : Tr L fun H => newRg m n H Q := t_newRg h fun p => Tr.lcast (rgV_ints m n) (k p)
theorem t_listI (hp : Pick a (.lst (ns.map V.int)) L R) (k : ∀ p, Tr ((p, .lst (ns.map V.int)) :: L) fun H => Q (.ref p) H) : Tr L fun H => rList K [.ref a] H Q := t_listL hp k
/-- a new list of ints, item by item -/
theorem t_newI (ns : List Int) (hz : ns.length ≤ sizeLine) (k : ∀ p, Tr ((p, .lst (ns.map V.int)) :: L) fun H => Q (.ref p) H) : Tr L fun H => newL (ns.map V.int) H Q := t_newL (by rw [List.length_map]; exact hz) k
theorem t_setI {i : Int} {v : Int} {G : Hp → Prop} (hp : Pick p (.lst (ns.map V.int)) L R) (h0 : 0 ≤ i) (h1 : i < ns.length) (k : Tr ((p, .lst ((ns.set i.toNat v).map V.int)) :: R) G) : Tr L fun H => rSetL (.ref p) (.int i) (.int v) H G :=
  t_setL (j := i.toNat) hp (by unfold ixN; rw [List.length_map]; first | rfl | (split <;> simp_all <;> omega)) (Tr.lcast List.map_set.symm k)
/-- n in xs, ints -/
theorem inV_ints (n : Int) : ∀ ns : List Int, inV (.int n) (ns.map V.int) = decide (n ∈ ns)
  | [] => rfl
  | m :: r => by
    have ih := inV_ints n r
    unfold inV at ih ⊢
    rw [List.map_cons, List.any_cons, ih]
    have e : eqV (.int m) (.int n) = decide (n = m) := by
      unfold eqV
      rw [Bool.eq_iff_iff, decide_eq_true_eq, beq_iff_eq]; exact eq_comm
    rw [e, ← Bool.decide_or]
    congr 1
    simp
theorem flat_ints (ns : List Int) : (ns.map V.int).all flatV = true := by
  induction ns with
  | nil => rfl
  | cons n r ih => rw [List.map_cons, List.all_cons, ih]; rfl
theorem t_inI (hp : Pick p (.lst (ns.map V.int)) L R) (k : Tr L fun H => Q (.bl (decide (n ∈ ns))) H) : Tr L fun H => rIn K false (.int n) (.ref p) H Q :=
  fun H l => ⟨p, _, rfl, .inl (sqL hp l), rfl, flat_ints ns, by rw [inV_ints]; exact k H l⟩
theorem t_notInI (hp : Pick p (.lst (ns.map V.int)) L R) (k : Tr L fun H => Q (.bl (!decide (n ∈ ns))) H) : Tr L fun H => rIn K true (.int n) (.ref p) H Q :=
  fun H l => ⟨p, _, rfl, .inl (sqL hp l), rfl, flat_ints ns, by rw [inV_ints]; exact k H l⟩
theorem t_neInts {xs ys : List Int} (ha : (a, .lst (xs.map V.int)) ∈ L) (hb : (b, .lst (ys.map V.int)) ∈ L) (k : Tr L fun H => Q (.bl (!decide (xs = ys))) H) : Tr L fun H => rNeD K (.ref a) (.ref b) H Q :=
  t_neD (Dt.ints ha).dpl (Dt.ints hb).dpl (shaped_ints xs) (shaped_ints ys) (by rw [eqv_ints]; exact k)
/-- tuples of ints -/
theorem eqv_intsT (xs ys : List Int) : PyData.eqv (.tuple (xs.map PyData.int)) (.tuple (ys.map PyData.int)) = decide (xs = ys) := by
  have h := eqv_ints xs ys
  simp only [PyData.eqv] at h ⊢
  exact h
theorem shaped_intsT (ns : List Int) : SeqAt.shaped (.tuple (ns.map PyData.int)) = true := by
  have c : ∀ ns : List Int, PyData.canLayAll0 (ns.map PyData.int) = true := by
    intro ns
    induction ns with
    | nil => simp [PyData.canLayAll0]
    | cons n r ih => simp [PyData.canLayAll0, PyData.canLay0, ih]
  unfold SeqAt.shaped
  simp [PyData.canLay0, c, PyData.depth, depthAll_ints]
theorem t_eqIntsT {xs ys : List Int} (ha : (a, .tup (xs.map V.int)) ∈ L) (hb : (b, .tup (ys.map V.int)) ∈ L) (k : Tr L fun H => Q (.bl (decide (xs = ys))) H) : Tr L fun H => rEqD K (.ref a) (.ref b) H Q :=
  t_eqD (Dt.intsT ha).dpl (Dt.intsT hb).dpl (shaped_intsT xs) (shaped_intsT ys) (by rw [eqv_intsT]; exact k)
theorem t_neIntsT {xs ys : List Int} (ha : (a, .tup (xs.map V.int)) ∈ L) (hb : (b, .tup (ys.map V.int)) ∈ L) (k : Tr L fun H => Q (.bl (!decide (xs = ys))) H) : Tr L fun H => rNeD K (.ref a) (.ref b) H Q :=
  t_neD (Dt.intsT ha).dpl (Dt.intsT hb).dpl (shaped_intsT xs) (shaped_intsT ys) (by rw [eqv_intsT]; exact k)
/-- xs.insert(i, y) -/
def rInsert : V → List V → Hp → VK → Prop := fun x vs H Q => ∃ (l : Addr) (xs : List V) (i : Int) (y : V), x = .ref l ∧ vs = [.int i, y] ∧ H l = some (.lst xs) ∧ xs.length < sizeLine ∧ 0 ≤ i ∧ i < 2 ^ 63 ∧
    Q .non (upd H l (.lst (xs.take i.toNat ++ [y] ++ xs.drop i.toNat)))
theorem mt_ins {X : Cx} : MtR X "list.insert" rInsert := mt_insert
theorem t_insI {i v : Int} (hp : Pick p (.lst (ns.map V.int)) L R) (hz : ns.length < sizeLine) (h0 : 0 ≤ i) (h1 : i < 2 ^ 63) (k : Tr ((p, .lst ((ns.take i.toNat ++ [v] ++ ns.drop i.toNat).map V.int)) :: R) fun H => Q .non H) : Tr L fun H => rInsert (.ref p) [.int i, .int v] H Q :=
  fun H l => ⟨p, _, i, _, rfl, rfl, l.get hp, by rw [List.length_map]; exact hz, h0, h1, by
    have := k _ (l.pick hp).put
    rw [List.map_append, List.map_append, List.map_take, List.map_drop] at this
    exact this⟩
theorem t_popAtI {i : Int} (hp : Pick p (.lst (ns.map V.int)) L R) (h0 : 0 ≤ i) (h1 : i < ns.length) (h2 : ns.length ≤ sizeLine) (k : Tr ((p, .lst ((ns.eraseIdx i.toNat).map V.int)) :: R) fun H => Q (.int (atD ns i)) H) : Tr L fun H => rPopAt (.ref p) [.int i] H Q :=
  fun H l => ⟨p, _, i, i.toNat, .int (atD ns i), rfl, rfl, l.get hp, by omega, by rw [sizeLine_eq] at h2; omega, by
    unfold seqIndex?
    rw [List.length_map]
    simp only [show ¬ i < 0 by omega, if_false]
    rw [if_pos (by simp; omega)], by rw [List.getElem?_map, atD_get h0 h1]; rfl, by
    have := k _ (l.pick hp).put
    rwa [map_erase] at this⟩
end
section
variable {L : Lg} {G1 G2 : Hp → Prop} {c : Prop} [Decidable c]
theorem t_ifDT (h : c) (k : Tr L G1) : Tr L fun H => if decide c = true then G1 H else G2 H := t_ifT (decide_eq_true h) k
theorem t_ifDF (h : ¬ c) (k : Tr L G2) : Tr L fun H => if decide c = true then G1 H else G2 H := t_ifF (decide_eq_false h) k
theorem t_ifNT (h : ¬ c) (k : Tr L G1) : Tr L fun H => if (!decide c) = true then G1 H else G2 H := t_ifT (by rw [decide_eq_false h]; rfl) k
theorem t_ifNF (h : c) (k : Tr L G2) : Tr L fun H => if (!decide c) = true then G1 H else G2 H := t_ifF (by rw [decide_eq_true h]; rfl) k
theorem t_ifR {α : Type} [DecidableEq α] {x : α} (k : Tr L G1) : Tr L fun H => if decide (x = x) = true then G1 H else G2 H := t_ifDT rfl k
theorem t_ifNR {α : Type} [DecidableEq α] {x : α} (k : Tr L G2) : Tr L fun H => if (!decide (x = x)) = true then G1 H else G2 H := t_ifNF rfl k
end
theorem cutI_from {ns : List Int} {i : Int} (h0 : 0 ≤ i) (h1 : i ≤ ns.length) : cutI ns (some i) none = ns.drop i.toNat := by
  unfold cutI
  have e : HT.sIx ns.length 0 (some i) = i.toNat := by
    show (if i < 0 then _ else min i.toNat ns.length) = i.toNat
    rw [if_neg (by omega)]; omega
  rw [e]
  show (ns.drop i.toNat).take (ns.length - i.toNat) = ns.drop i.toNat
  exact List.take_of_length_le (by rw [List.length_drop]; omega)
theorem cutI_to {ns : List Int} {i : Int} (h0 : 0 ≤ i) (h1 : i ≤ ns.length) : cutI ns none (some i) = ns.take i.toNat := by
  unfold cutI
  have e : HT.sIx ns.length ns.length (some i) = i.toNat := by
    show (if i < 0 then _ else min i.toNat ns.length) = i.toNat
    rw [if_neg (by omega)]; omega
  rw [e]
  show ((ns.drop 0).take (i.toNat - 0)) = ns.take i.toNat
  rw [List.drop_zero, Nat.sub_zero]
/-! ### filtered comprehensions -/
/-- of the first i turns those that b keeps, told by o -/
def fl {α : Type} (b : Nat → Bool) (o : Nat → α) (i : Nat) : List α := ((List.range i).filter b).map o
theorem fl_succ {α : Type} (b : Nat → Bool) (o : Nat → α) (i : Nat) : fl b o (i + 1) = if b i = true then fl b o i ++ [o i] else fl b o i := by
  unfold fl
  rw [List.range_succ, List.filter_append, List.map_append]
  cases h : b i <;> simp [h]
theorem fl_len {α : Type} (b : Nat → Bool) (o : Nat → α) (i : Nat) : (fl b o i).length ≤ i := by
  unfold fl
  rw [List.length_map]
  exact Nat.le_trans (List.length_filter_le _ _) (by rw [List.length_range]; exact Nat.le_refl _)
section
variable {L : Lg} {σ σ0 : SS} {g : TG} {tt : TT} {te : TE} {vs : List Nat} {Q : VK} {b : Nat → Bool} {o : Nat → V} {D : Addr} {i : Nat} {M R2 : Lg}
def lcFl (L : Lg) (b : Nat → Bool) (o : Nat → V) (D : Addr) (i : Nat) : Hp → Prop := lcNx (fun _ (_ : Unit) => L) (fun i _ => fl b o i) (fun _ _ => True) D i
theorem t_lcFlA {v : V} {n : Nat} (hn : i < n) (hz : n ≤ sizeLine) (hb : b i = true) (hv : v = o i) (hp : Pick D (.lst (fl b o i)) M R2) (hM : Sub R2 L) : Tr M fun H => lcAdd D (lcFl L b o D (i + 1)) v H := by
  refine t_lcAdd () trivial hp ?_ (by rw [fl_succ, if_pos hb, hv]) hM
  have := fl_len b o i
  omega
theorem t_lcFlS (hb : b i = false) (hp : Pick D (.lst (fl b o i)) M R2) (hM : Sub R2 L) : Tr M fun H => lcFl L b o D (i + 1) H := by
  refine t_lcSkip () trivial ?_
  have e : fl b o (i + 1) = fl b o i := by rw [fl_succ, if_neg (by rw [hb]; decide)]
  show Sub M ((D, .lst (fl b o (i + 1))) :: L)
  rw [e]
  exact .take hp hM
theorem t_lcFil {J : It} {n : Nat} {val : Nat → V → Lg → Prop} {Src : Lg → Prop} (wk : Wk J n val Src) (hw : wipe σ vs = σ0) (b : Nat → Bool) (o : Nat → V) (hsrc : ∀ x, Src (x :: L))
    (hs : ∀ D i v L', i < n → val i v L' → Tr (L' ++ (D, .lst (fl b o i)) :: L) fun H => g v σ0 H fun σ2 H2 => wipe σ2 vs = σ0 ∧ tt σ2 H2 fun c H3 => if c = true then te σ2 H3 (lcAdd D (lcFl L b o D (i + 1))) else lcFl L b o D (i + 1) H3)
    (hd : ∀ D, Tr ((D, .lst (fl b o n)) :: L) fun H => Q (.ref D) H) : Tr L fun H => lcK g tt te vs σ Q J H :=
  t_lcK wk hw (fun _ (_ : Unit) => L) (fun i _ => fl b o i) (fun _ _ => True) ⟨(), trivial, rfl, .refl⟩ (fun D i y _ => hsrc _) (fun D i y v L' hi _ hv => hs D i v L' hi hv) fun D y _ => hd D
theorem fl_ints (b : Nat → Bool) (o : Nat → Int) (i : Nat) : fl b (fun k => V.int (o k)) i = (fl b o i).map V.int := by unfold fl; rw [List.map_map]; rfl
end
end Hz
namespace Hz
open PySem PySem.Spec PyProof.Rows L2 RZ
/-! ### while, the test may change the heap -/
section
variable {L : Lg} {σ : SS} {D : Ends} {tc : TT} {tb : TS}
variable {α : Type} {S : α → SS} {M : α → Lg} {I : α → Prop} {μ : α → Nat} {n : Nat}
/-- behind the test of a while -/
def whB (tb : TS) (D : Ends) (S : α → SS) (M : α → Lg) (I : α → Prop) (μ : α → Nat) (n : Nat) (σ : SS) (b : Bool) (H : Hp) : Prop :=
  if b = true then ∃ N : SS → Hp → Prop, (∀ σ' H', N σ' H' → ∃ m', m' < n ∧ ∃ y, m' = μ y ∧ I y ∧ σ' = S y ∧ Led H' (M y)) ∧ tb { D with nx := N, ct := N, bk := D.nx } σ H else D.nx σ H
theorem t_whBT (k : Tr L fun H => tb { D with nx := Wst S M I μ n, ct := Wst S M I μ n, bk := D.nx } σ H) : Tr L fun H => whB tb D S M I μ n σ true H := fun H l => by
  refine iteT ?_
  exact ⟨_, fun σ3 H3 ⟨z, iz, lt, e, lz⟩ => ⟨μ z, lt, z, rfl, iz, e, lz⟩, k H l⟩
theorem t_whBF (k : Tr L fun H => D.nx σ H) : Tr L fun H => whB tb D S M I μ n σ false H := fun H l => by
  exact iteF (k H l)
theorem t_whB {c : Prop} [Decidable c] (h1 : c → Tr L fun H => tb { D with nx := Wst S M I μ n, ct := Wst S M I μ n, bk := D.nx } σ H) (h2 : ¬ c → Tr L fun H => D.nx σ H) : Tr L fun H => whB tb D S M I μ n σ (decide c) H := by
  by_cases h : c
  · rw [decide_eq_true h]; exact t_whBT (h1 h)
  · rw [decide_eq_false h]; exact t_whBF (h2 h)
theorem t_whG (S : α → SS) (M : α → Lg) (I : α → Prop) (μ : α → Nat) (h0 : ∃ y, I y ∧ σ = S y ∧ Sub L (M y)) (hs : ∀ y, I y → Tr (M y) fun H => tc (S y) H (whB tb D S M I μ (μ y) (S y))) : Tr L fun H => tWhile tc tb D σ H := by
  intro H l
  obtain ⟨y0, i0, e0, s0⟩ := h0
  refine ⟨fun m σ' H' => ∃ y, m = μ y ∧ I y ∧ σ' = S y ∧ Led H' (M y), ⟨μ y0, y0, rfl, i0, e0, l.sub s0⟩, ?_⟩
  rintro m σ' H' ⟨y, rfl, iy, rfl, ly⟩
  exact hs y iy H' ly
end
end Hz
namespace Hz
open PySem PySem.Spec PyProof.Rows L2 RZ
/-- two ways come together: a new list of ints at p, o otherwise known -/
theorem t_joinO {L : Lg} {G : Hp → Prop} {T : Addr → Hp → Prop} (X : List Int → Addr → HO → Lg) (J : List Int → HO → Prop) (k : (∀ ds p o M, J ds o → Sub M (X ds p o) → Tr M (T p)) → Tr L G)
    (main : ∀ ds p o, J ds o → Tr (X ds p o) (T p)) : Tr L G := k fun ds p o M h s => (main ds p o h).sub s
/-- two ways come together: o otherwise known -/
theorem t_join1 {L : Lg} {G : Hp → Prop} {T : Hp → Prop} (X : HO → Lg) (J : HO → Prop) (k : (∀ o M, J o → Sub M (X o) → Tr M T) → Tr L G) (main : ∀ o, J o → Tr (X o) T) : Tr L G := k fun o M h s => (main o h).sub s
/-- two ways come together -/
theorem t_join0 {L : Lg} {G : Hp → Prop} {T : Hp → Prop} (X : Lg) (k : (∀ M, Sub M X → Tr M T) → Tr L G) (main : Tr X T) : Tr L G := k fun M s => main.sub s
/-- two ways come together: an int -/
theorem t_joinI {L : Lg} {G : Hp → Prop} {T : Int → Hp → Prop} (X : HO → Lg) (J : Int → HO → Prop) (k : (∀ i o M, J i o → Sub M (X o) → Tr M (T i)) → Tr L G) (main : ∀ i o, J i o → Tr (X o) (T i)) : Tr L G := k fun i o M h s => (main i o h).sub s
end Hz
namespace Hz
open PySem PySem.Spec PyProof.Rows L2 RZ
section
variable {L R : Lg} {σ : SS} {Q : VK} {K : PySem.W.Frag} {a : Addr} {ns : List Int} {xs : List V}
theorem t_sortI (hp : Pick a (.lst (ns.map V.int)) L R) (k : ∀ (ns' : List Int) p, ns'.Perm ns → ns'.Pairwise (· ≤ ·) → Tr ((p, .lst (ns'.map V.int)) :: L) fun H => Q (.ref p) H) : Tr L fun H => rSortedI K [.ref a] H Q :=
  fun H l => ⟨a, ns, rfl, sqL hp l, fun ns' p h1 h2 hp' => k ns' p h1 h2 _ (l.new hp')⟩
theorem first_idx {ns : List Int} {y : Int} (h : y ∈ ns) : ∃ j : Nat, ns[j]? = some y ∧ ∀ m : Nat, m < j → ns[m]? ≠ some y := by
  induction ns with
  | nil => cases h
  | cons n r ih =>
    by_cases e : n = y
    · exact ⟨0, by rw [e]; rfl, fun m hm => by omega⟩
    · obtain ⟨j, h1, h2⟩ := ih (by
        rcases List.mem_cons.mp h with h | h
        · exact absurd h.symm e
        · exact h)
      refine ⟨j + 1, by simpa using h1, fun m hm => ?_⟩
      cases m with
      | zero => simpa using e
      | succ m => simpa using h2 m (by omega)
theorem t_indexI {y : Int} (hp : Pick a (.lst (ns.map V.int)) L R) (h : y ∈ ns) (k : ∀ j : Nat, ns[j]? = some y → Tr L fun H => Q (.int (j : Nat)) H) : Tr L fun H => rIndex K (.ref a) [.int y] H Q := by
  obtain ⟨j, h1, h2⟩ := first_idx h
  refine fun H l => ⟨a, ns.map V.int, .int y, j, .int y, rfl, rfl, sqL hp l, rfl, flat_ints ns, by rw [List.getElem?_map, h1]; rfl, (show (y == y) = true from beq_self_eq_true y), fun m z' hm hz => ?_, k j h1 H l⟩
  rw [List.getElem?_map] at hz
  cases e : ns[m]? with
  | none => rw [e] at hz; cases hz
  | some w =>
    rw [e] at hz
    cases hz
    show (w == y) = false
    have := h2 m hm
    rw [e] at this
    simpa using this
theorem t_lstG {n : Nat} {gs : TGs} {Qn : SS → Hp → Prop} (hp : Pick a (.lst xs) L R) (hn : xs.length = n) (k : Tr L fun H => gs xs σ H Qn) : Tr L fun H => gLst K n gs (.ref a) σ H Qn := fun H l => ⟨a, xs, rfl, sqL hp l, hn, k H l⟩
theorem fl_none {α : Type} (o : Nat → α) (n : Nat) : fl (fun _ => false) o n = [] := by unfold fl; rw [List.filter_eq_nil_iff.mpr (fun _ _ => by decide)]; rfl
theorem fl_all {α : Type} (o : Nat → α) (n : Nat) : fl (fun _ => true) o n = (List.range n).map o := by unfold fl; rw [List.filter_eq_self.mpr (fun _ _ => rfl)]
end
end Hz
namespace Hz
open PySem PySem.Spec PyProof.Rows L2 RZ
/-- two ways come together: an int, the heap as it was -/
theorem t_joinE {L : Lg} {G : Hp → Prop} {T : Int → Hp → Prop} (X : Lg) (J : Int → Prop) (k : (∀ i M, J i → Sub M X → Tr M (T i)) → Tr L G) (main : ∀ i, J i → Tr X (T i)) : Tr L G := k fun i M h s => (main i h).sub s
theorem rg_at {a b d : Int} (h0 : 0 ≤ d) (h1 : d < b - a) : atD (rgI a b) d = a + d := by
  have := atD_nat (rgI_get (a := a) (b := b) (i := d.toNat) (by omega))
  rwa [Int.toNat_of_nonneg h0] at this
end Hz
namespace Hz
open PySem PySem.Spec PyProof.Rows L2 RZ
/-- two ways come together ahead of a loop over range(e) -/
theorem t_joinR {L : Lg} {G : Hp → Prop} {g : TG} {tb : TS} {D : Ends} {σ : SS} (X : Lg) (J : Int → Prop) (k : (∀ i M, J i → Sub M X → Tr M (forK g tb D σ (Itr 0 i.toNat))) → Tr L G) (main : ∀ i, J i → Tr X (forK g tb D σ (Itr 0 i.toNat))) : Tr L G := k fun i M h s => (main i h).sub s
end Hz

/-! Hz, part S: a list's slice is stored, with open ends. -/
namespace Hz
open PySem PySem.Spec PyProof.Rows L2 RZ PySem.W
section
variable {prog : Program} {w : World} {A : Around} {s : Shared} {E : Value → Shared → Prop}
theorem bounds_open (n : Nat) : sliceBounds none none none n = (((0 : Nat) : Int), (n : Int), 1) := by
  simp only [sliceBounds, Option.getD_none]
  rfl
theorem bounds_from {a n : Nat} (h : a ≤ n) : sliceBounds (some (a : Int)) none none n = ((a : Int), (n : Int), 1) := by
  simp only [sliceBounds, Option.getD_none]
  have h1 : ¬ ((a : Int) < 0) := by omega
  simp only [h1, if_false, show (1 : Int) > 0 by decide, if_true]
  congr 1
  omega
/-- the store at the level of values: the bounds are told -/
theorem store_slice {l b sl : Addr} {items new : Array Value} {n n2 a c : Nat} {vl vu : Value} {lo hi : Option Int} {Q : Unit → Shared → Prop}
    (e : s.heap.get? l = some { cls := .type "list", data := .seq items n }) (e2 : s.heap.get? b = some { cls := .type "list", data := .seq new n2 }) (hne : l ≠ b)
    (hs : s.heap.IsSliceOf sl vl vu .none) (pl : IsPart vl lo) (pu : IsPart vu hi) (hb : sliceBounds lo hi none items.size = ((a : Int), (c : Int), 1)) (hac : a ≤ c) (hc : c ≤ items.size)
    (hsz : items.size + new.size ≤ sizeLine) (h : Q () { s with heap := s.heap.update l (Obj.mapSeq fun xs => xs.extract 0 a ++ new ++ xs.extract c xs.size) }) :
    wpAny (model prog w) A (setItem (.ref l) (.ref sl) (.ref b)) Q E s := by
  have tl : s.heap.IsList l items := PySem.IsL.isList e
  have tb : s.heap.IsList b new := PySem.IsL.isList e2
  obtain ⟨os, o1, o2, o3⟩ := id hs
  have ts : s.TypeIs (.ref sl) "slice" := ⟨os, o1, o2⟩
  have same : Builtin.List.listSameRef (.ref l) (.ref b) = false := by
    unfold Builtin.List.listSameRef
    exact beq_eq_false_iff_ne.mpr hne
  have big : ((fun xs : Array Value => xs.extract 0 a ++ new ++ xs.extract c xs.size) items).size ≤ sizeLine + 1 := by
    simp only [Array.size_append, Array.size_extract]
    omega
  unfold setItem
  try with_reducible refine wpAny_holding ?_
  first | refine wpAny_bind (wpAny_pure ?_) | skip
  refine wpAny_bind (wpAny_sequenceKey tl.typeIs (by decide) (wpAny_bind (wpAny_callSpecial?_slot (name := Str.ofString "__setitem__") tl.typeIs slot_list_setitem
    (wpAny_call_entry slot_list_setitem tl.typeIs entry_list_setitem ?_ (args_list_setitem _ _ _)))))
  show wpAny _ _ (Builtin.List.listSubscript? (.ref sl) >>= _) _ _ s
  refine wpAny_bind ?_
  unfold Builtin.List.listSubscript?
  refine wpAny_bind (wpAny_specialOf ts slice_no_index ?_)
  simp only [Option.isNone_none, if_true]
  refine wpAny_pure ?_
  show wpAny _ _ (typeOf (.ref sl) >>= _) _ _ s
  refine wpAny_bind (wpAny_typeOf ts ?_)
  first
    | rw [if_neg (by decide)]
    | refine PySem.W.KFB.if_not (by decide) ?_
  rw [listSliceParts_eq]
  refine wpAny_bind (wpAny_bind (wpAny_field o1 o3 (x := .none) rfl (wpAny_bind (wpAny_listPart .none ?_))))
  rw [if_neg (show ¬ ((rawPart none == rawInt 0) = true) from Bool.false_ne_true)]
  refine wpAny_bind (wpAny_field o1 o3 (x := vl) rfl (wpAny_bind (wpAny_listPart pl (wpAny_bind (wpAny_field o1 o3 (x := vu) rfl (wpAny_bind (wpAny_listPart pu (wpAny_pure ?_))))))))
  first
    | simp only [same, Bool.false_eq_true, if_false]
    | refine PySem.W.KFB.if_not same ?_
    | (dsimp only
       rw [if_neg (by rw [same]; exact Bool.false_ne_true)])
  refine wpAny_bind (m := Builtin.List.listAllItems (.ref b) "must assign iterable to extended slice") ?_
  unfold Builtin.List.listAllItems
  refine wpAny_bind (wpAny_typeOf tb.typeIs ?_)
  first
    | refine PySem.W.KFB.if_so (by decide) ?_
    | rw [if_pos (by decide)]
    | simp only [beq_self_eq_true, Bool.true_or, if_true]
  unfold Builtin.List.listItems
  refine wpAny_bind (wpAny_seqItems e2 rfl (wpAny_pure ?_))
  refine wpAny_bind (wpAny_bind (wpAny_seqItems e rfl (wpAny_pure ?_)))
  refine wpAny_bind (wpAny_of_eq ((sliceIndices_raw lo hi none items.size (by simp)).trans (congrArg (pure : Int × Int × Int → Sem (Int × Int × Int)) hb)) ?_)
  show wpAny _ _ (if ((1 : Int) == 1) = true then _ else _) _ _ s
  rw [if_pos (by decide)]
  refine wpAny_bind (wpAny_rule ?_)
  first
    | simp only [notLongL hsz, Bool.false_eq_true, if_false]
    | refine PySem.W.KFB.if_not (notLongL hsz) ?_
  first | refine wpAny_bind (wpAny_pure ?_) | skip
  show wpAny _ _ (updateSeq l (fun xs => xs.extract 0 ((a : Int)).toNat ++ new ++ xs.extract (max (a : Int) (c : Int)).toNat xs.size) >>= _) _ _ s
  rw [show (max (a : Int) (c : Int)).toNat = c by omega, Int.toNat_natCast]
  refine wpAny_bind (wpAny_updateSeq (hz := Nat.le_trans (Nat.le_add_right _ _) hsz) (_hz' := big) e rfl ?_)
  refine wpAny_bind (wpAny_letGo ?_)
  first
    | exact wpAny_bind (wpAny_pure (wpAny_pure ⟨.none, rfl, wpAny_pure h⟩))
    | exact wpAny_pure ⟨.none, rfl, wpAny_pure h⟩
end
/-- xs[lo:hi] = ys : the bounds are told -/
def rSetSl (o : V) (lo hi : Option Int) (v : V) (H : Hp) (G : Hp → Prop) : Prop := ∃ l b xs ys a c, o = .ref l ∧ v = .ref b ∧ H l = some (.lst xs) ∧ H b = some (.lst ys) ∧ l ≠ b ∧
  sliceBounds lo hi none xs.length = (((a : Nat) : Int), ((c : Nat) : Int), 1) ∧ a ≤ c ∧ c ≤ xs.length ∧ xs.length + ys.length ≤ sizeLine ∧ G (upd H l (.lst (xs.take a ++ ys ++ xs.drop c)))
def gSl (to : TE) (tl th : TO) : TG := fun v σ H Q => to σ H fun o H1 => tl σ H1 fun lo H2 => th σ H2 fun hi H3 => rSetSl o lo hi v H3 fun H4 => Q σ H4
section
variable {X : Cx}
theorem pg_slice {o : Expr} {lo hi : Option Expr} {to : TE} {tl th : TO} {pos p2 : Pos} (ho : PE X o to) (hl : PO X lo tl) (hu : PO X hi th)
    (ha : ∀ v, assign (.Subscript o (.Slice lo hi none p2) pos) X.env v = (do
      let ov ← holding [v] (eval o X.env)
      let iv ← holding [v, ov] (eval (.Slice lo hi none p2) X.env)
      standAt pos
      holding [v, ov, iv] (setItem ov iv v)
      release [iv, v, ov] []) := by intro _; rfl) : PG X (.Subscript o (.Slice lo hi none p2) pos) (gSl to tl th) := by
  refine ⟨fun pins s σ H v u Q I r h => ?_⟩
  rw [ha]
  refine wpAny_bind (wpAny_holding (thn (ho.run pins s σ H _ I h) fun ov s1 ⟨x, H1, I1, r1, q1⟩ => ?_))
  refine wpAny_bind (wpAny_holding (wpAny_Slice (thn (hl.run pins s1 σ H1 _ I1 q1) fun vl s2 ⟨l, H2, I2, pl, q2⟩ => thn (hu.run pins s2 σ H2 _ I2 q2) fun vu s3 ⟨u', H3, I3, pu, q3⟩ => ?_)))
  rw [evalPart_none]
  refine wpAny_pure ?_
  have I4 : Inv X pins σ H3 { s3 with heap := s3.heap.push { cls := .type "slice", data := .fields #[vl, vu, .none] } } := I3.kept (t' := s3.toks) fun b ob q => Heap.get?_push_of_some _ q
  obtain ⟨l', b, xs, ys, a, c, rfl, rfl, hH, hB, hne, hb, hac, hc, hz, q⟩ := q3
  cases r1
  cases r
  obtain ⟨z, its, n, rv, hlen, e⟩ := I4.lstM hH
  obtain ⟨z2, its2, n2, r2, hlen2, e2⟩ := I4.lstM hB
  refine wpAny_bind (wpAny_standAt (wpAny_bind (wpAny_holding ?_)))
  have sz : its.toArray.size = xs.length := by rw [List.size_toArray]; omega
  refine store_slice (a := a) (c := c) e e2 hne (Heap.IsSliceOf.new ..) pl pu (by rw [sz]; exact hb) hac (by rw [sz]; exact hc) (by rw [sz, List.size_toArray]; omega) ?_
  refine wpAny_release ⟨σ, _, ?_, q⟩
  refine I4.lset (its' := its.take a ++ its2 ++ its.drop c) (t' := s3.toks) hH e ?_ (Vals.append (Vals.append (rv.take _) r2) (rv.drop _)) ?_
  · exact splice_eq its its2 a c
  · rw [List.length_append, List.length_append, List.length_take, List.length_drop]
    omega
end
section
variable {L R R' : Lg} {σ : SS} {l b : Addr} {ns ms : List Int} {G : Hp → Prop}
theorem t_gSl {to : TE} {tl th : TO} {v : V} {Qn : SS → Hp → Prop} (k : Tr L fun H => to σ H fun o H1 => tl σ H1 fun lo H2 => th σ H2 fun hi H3 => rSetSl o lo hi v H3 fun H4 => Qn σ H4) : Tr L fun H => gSl to tl th v σ H Qn := k
theorem ne_led {H : Hp} {L R R' : Lg} {a b : Addr} {o o' : HO} (l : Led H L) (p : Pick a o L R) (q : Pick b o' R R') : a ≠ b := by
  intro e
  subst e
  have n := (List.nodup_cons.mp (l.pick p).nd).1
  exact n (List.mem_map.mpr ⟨_, q.mem, rfl⟩)
/-- xs[:] = ys -/
theorem t_setAll (hp : Pick l (.lst (ns.map V.int)) L R) (hq : Pick b (.lst (ms.map V.int)) R R') (hz : ns.length + ms.length ≤ sizeLine) (k : Tr ((l, .lst (ms.map V.int)) :: R) G) : Tr L fun H => rSetSl (.ref l) none none (.ref b) H G := fun H h =>
  ⟨l, b, _, _, 0, ns.length, rfl, rfl, h.get hp, (h.pick hp).tail.get hq, ne_led h hp hq, by rw [List.length_map]; exact bounds_open _, Nat.zero_le _, by rw [List.length_map]; exact Nat.le_refl _, by rw [List.length_map, List.length_map]; exact hz, by
    have e : (ns.map V.int).take 0 ++ ms.map V.int ++ (ns.map V.int).drop ns.length = ms.map V.int := by
      rw [List.take_zero, List.nil_append, List.drop_of_length_le (by rw [List.length_map]; exact Nat.le_refl _), List.append_nil]
    rw [e]
    exact k _ (h.pick hp).put⟩
/-- xs[i:] = ys -/
theorem t_setFrom {i : Int} (hp : Pick l (.lst (ns.map V.int)) L R) (hq : Pick b (.lst (ms.map V.int)) R R') (h0 : 0 ≤ i) (h1 : i ≤ ns.length) (hz : ns.length + ms.length ≤ sizeLine)
    (k : Tr ((l, .lst ((ns.take i.toNat ++ ms).map V.int)) :: R) G) : Tr L fun H => rSetSl (.ref l) (some i) none (.ref b) H G := fun H h =>
  ⟨l, b, _, _, i.toNat, ns.length, rfl, rfl, h.get hp, (h.pick hp).tail.get hq, ne_led h hp hq, by
      rw [List.length_map]
      have := bounds_from (a := i.toNat) (n := ns.length) (by omega)
      rw [Int.toNat_of_nonneg h0] at this ⊢
      exact this, by omega, by rw [List.length_map]; exact Nat.le_refl _, by rw [List.length_map, List.length_map]; exact hz, by
    have e : (ns.map V.int).take i.toNat ++ ms.map V.int ++ (ns.map V.int).drop ns.length = (ns.take i.toNat ++ ms).map V.int := by
      rw [List.drop_of_length_le (by rw [List.length_map]; exact Nat.le_refl _), List.append_nil, List.map_append, List.map_take]
    rw [e]
    exact k _ (h.pick hp).put⟩
end
end Hz

/-! Hz, part G: data with empty dicts; a ledger grown by what is new. -/
namespace Hz
open PySem PySem.Spec PyProof.Rows L2 RZ
/-! ### what repr reads: a dict may be no sys.modules -/
mutual
inductive Rq (h : Heap) : Value → PyData → Prop where
  | none : Rq h .none .none
  | bool (b : Bool) : Rq h (.bool b) (.bool b)
  | int (i : Int) (t : Nat) : Rq h (.int i t) (.int i)
  | str (x : Str) (t : Nat) : Rq h (.str x t) (.str x)
  | list {a : Addr} {o : Obj} {vs : Array Value} {n : Nat} {ds : List PyData} (g : h.get? a = some o) (c : o.cls = .type "list") (e : o.data = .seq vs n) (r : RqA h vs.toList ds) : Rq h (.ref a) (.list ds)
  | tuple {a : Addr} {o : Obj} {vs : Array Value} {n : Nat} {ds : List PyData} (g : h.get? a = some o) (c : o.cls = .type "tuple") (e : o.data = .seq vs n) (r : RqA h vs.toList ds) : Rq h (.ref a) (.tuple ds)
  | dict {a : Addr} {o : Obj} {es : Array DictEntry} {n : Nat} (g : h.get? a = some o) (c : o.cls = .type "dict") (e : o.data = .dict es n) (z : es.toList = []) (q : (a == sysModules) = false) : Rq h (.ref a) (.dict [])
inductive RqA (h : Heap) : List Value → List PyData → Prop where
  | nil : RqA h [] []
  | cons {v : Value} {vs : List Value} {d : PyData} {ds : List PyData} (r : Rq h v d) (q : RqA h vs ds) : RqA h (v :: vs) (d :: ds)
end
mutual
theorem Rq.reads {h : Heap} : ∀ {v : Value} {d : PyData}, Rq h v d → ∃ as, Reads h v d as
  | _, _, .none => ⟨_, .none⟩
  | _, _, .bool b => ⟨_, .bool b⟩
  | _, _, .int i t => ⟨_, .int i t⟩
  | _, _, .str x t => ⟨_, .str x t⟩
  | _, _, .list g c e r => let ⟨_, q⟩ := RqA.reads r; ⟨_, .list g c e q⟩
  | _, _, .tuple g c e r => let ⟨_, q⟩ := RqA.reads r; ⟨_, .tuple g c e q⟩
  | _, _, .dict (es := es) g c e z q => ⟨_, .dict (kvs := []) g c e (by rw [z]; exact .nil) (by rw [z]; exact .nil)⟩
theorem RqA.reads {h : Heap} : ∀ {vs : List Value} {ds : List PyData}, RqA h vs ds → ∃ as, ReadsAll h vs ds as
  | _, _, .nil => ⟨_, .nil⟩
  | _, _, .cons r q => let ⟨_, a⟩ := Rq.reads r; let ⟨_, b⟩ := RqA.reads q; ⟨_, .cons a b⟩
end
section
variable {P : Program} {w : World} {h : Heap}
theorem RqA.go {vs : List Value} {ds : List PyData} (F : ∀ v d, (v, d) ∈ vs.zip ds → d.showable = true → d.shown.length ≤ sizeLine → ∃ bs, ReadAtMost h d.depth bs ∧ ReprK P w bs h d.depth v d.shown) :
    RqA h vs ds → PyData.showableAll ds = true → (∀ t ∈ PyData.shownAll ds, t.length ≤ sizeLine) → ∃ bs, ReadAtMost h (PyData.depthAll ds) bs ∧ ReprAllK P w bs h (PyData.depthAll ds) vs (PyData.shownAll ds) := by
  induction vs generalizing ds with
  | nil =>
    intro r _ _
    cases r
    exact ⟨[], (fun _ z => nomatch z), by simp only [PyData.shownAll]; exact .nil⟩
  | cons v vs ih =>
    intro r hs hz
    cases r with
    | cons r q =>
      rename_i d ds
      simp only [PyData.showableAll, Bool.and_eq_true] at hs
      simp only [PyData.shownAll, List.mem_cons] at hz
      obtain ⟨b1, r1, k1⟩ := F v d (by simp) hs.1 (hz _ (.inl rfl))
      obtain ⟨b2, r2, k2⟩ := ih (fun v' d' m => F v' d' (by simp [m])) q hs.2 fun t ht => hz t (.inr ht)
      refine ⟨b1 ++ b2, fun b hb => ?_, ?_⟩
      · simp only [PyData.depthAll]
        rcases List.mem_append.mp hb with m | m
        · obtain ⟨d', as', x, y⟩ := r1 b m
          exact ⟨d', as', x, Nat.le_trans y (Nat.le_max_left _ _)⟩
        · obtain ⟨d', as', x, y⟩ := r2 b m
          exact ⟨d', as', x, Nat.le_trans y (Nat.le_max_right _ _)⟩
      · simp only [PyData.depthAll, PyData.shownAll]
        exact .cons ((k1.more fun b m => List.mem_append_left _ m).level_le (Nat.le_max_left _ _)) (k2.more_le (fun b m => List.mem_append_right _ m) (Nat.le_max_right _ _))
theorem rqa_at {vs : List Value} {ds : List PyData} {v : Value} {d : PyData} (r : RqA h vs ds) (m : (v, d) ∈ vs.zip ds) : Rq h v d := by
  induction vs generalizing ds with
  | nil => cases r; simp at m
  | cons x vs ih =>
    cases r with
    | cons r q =>
      simp only [List.zip_cons_cons, List.mem_cons, Prod.mk.injEq] at m
      rcases m with ⟨rfl, rfl⟩ | m
      · exact r
      · exact ih q m
theorem rqa_sz {vs : List Value} {ds : List PyData} {v : Value} {d : PyData} (m : (v, d) ∈ vs.zip ds) : sizeOf d < sizeOf ds := List.sizeOf_lt_of_mem (List.of_mem_zip m).2
theorem Rq.reprN : ∀ (N : Nat) {v : Value} {d : PyData}, sizeOf d ≤ N → Rq h v d → d.showable = true → d.shown.length ≤ sizeLine → ∃ bs, ReadAtMost h d.depth bs ∧ ReprK P w bs h d.depth v d.shown := by
  intro N
  induction N with
  | zero =>
    intro v d hN
    exfalso
    cases d <;> simp at hN <;> omega
  | succ N ihN =>
  intro v d hN r hs hz
  have r0 := r
  cases r with
  | none => exact ⟨[], (fun _ z => nomatch z), by simp only [PyData.shown]; exact .of_is ReprIs.none _ _ _⟩
  | bool b => exact ⟨[], (fun _ z => nomatch z), by simp only [PyData.shown]; exact .of_is (ReprIs.bool b) _ _ _⟩
  | int i t => exact ⟨[], (fun _ z => nomatch z), by simp only [PyData.shown]; exact .of_is (ReprIs.int t (by simpa [PyData.showable] using hs)) _ _ _⟩
  | str x t => exact ⟨[], (fun _ z => nomatch z), by simp only [PyData.shown]; exact .of_is (ReprIs.str x t (by simpa only [PyData.shown] using hz)) _ _ _⟩
  | list g c e r =>
    rename_i a o vs n ds
    obtain ⟨as, rr⟩ := r0.reads
    simp only [PyData.showable] at hs
    have hz2 : (listText (PyData.shownAll ds)).length ≤ sizeLine := by simpa only [PyData.shown] using hz
    obtain ⟨bs, hb, hk⟩ := RqA.go (P := P) (w := w) (fun v d m h1 h2 => ihN (by have := rqa_sz m; simp at hN; omega) (rqa_at r m) h1 h2) r hs fun t ht => Nat.le_trans (listText_mem_le ht) hz2
    have hna : a ∉ bs := not_mem_of_deeper rr (by simp only [PyData.depth]; omega) hb
    refine ⟨a :: bs, ReadAtMost.cons rr (by simp only [PyData.depth]; omega) hb, ?_⟩
    simp only [PyData.depth, PyData.shown]
    obtain ⟨l⟩ := vs
    cases l with
    | nil =>
      cases r
      simp only [PyData.shownAll, listText_nil]
      exact ReprK.listEmpty g c e
    | cons x l => exact ReprK.list g c e hna (by simpa using hk.length_eq) fun i y z => hk.item i y (by simpa using z)
  | tuple g c e r =>
    rename_i a o vs n ds
    obtain ⟨as, rr⟩ := r0.reads
    simp only [PyData.showable] at hs
    have hz2 : (tupleText (PyData.shownAll ds)).length ≤ sizeLine := by simpa only [PyData.shown] using hz
    obtain ⟨bs, hb, hk⟩ := RqA.go (P := P) (w := w) (fun v d m h1 h2 => ihN (by have := rqa_sz m; simp at hN; omega) (rqa_at r m) h1 h2) r hs fun t ht => Nat.le_trans (tupleText_mem_le ht) hz2
    have hna : a ∉ bs := not_mem_of_deeper rr (by simp only [PyData.depth]; omega) hb
    refine ⟨a :: bs, ReadAtMost.cons rr (by simp only [PyData.depth]; omega) hb, ?_⟩
    simp only [PyData.depth, PyData.shown]
    exact ReprK.tuple g c e hna hk
  | dict g c e z q =>
    rename_i a o es n
    obtain ⟨as, rr⟩ := r0.reads
    refine ⟨[a], ReadAtMost.cons rr (Nat.zero_le _) (bs := []) (n := 0) (fun _ z => nomatch z), ?_⟩
    simp only [PyData.depth, PyData.depthKv, PyData.shown, PyData.shownKv]
    exact ReprK.dict g c e q (by simp) (by rw [z]; exact .nil)
theorem Rq.repr {v : Value} {d : PyData} (r : Rq h v d) (hs : d.showable = true) (hz : d.shown.length ≤ sizeLine) : ∃ bs, ReadAtMost h d.depth bs ∧ ReprK P w bs h d.depth v d.shown := Rq.reprN _ (Nat.le_refl _) r hs hz
theorem Rq.shows {a : Addr} {d : PyData} (r : Rq h (.ref a) d) (hs : d.showable = true) (hz : d.shown.length ≤ sizeLine) : ∃ T idr, ShowsBy P w h a d T idr := by
  have r0 := r
  cases r with
  | list g c e r =>
    rename_i o vs n ds
    obtain ⟨as, rr⟩ := r0.reads
    simp only [PyData.showable] at hs
    have hz2 : (listText (PyData.shownAll ds)).length ≤ sizeLine := by simpa only [PyData.shown] using hz
    obtain ⟨bs, hb, hk⟩ := RqA.go (P := P) (w := w) (fun v d m h1 h2 => Rq.repr (rqa_at r m) h1 h2) r hs fun t ht => Nat.le_trans (listText_mem_le ht) hz2
    have hna : a ∉ bs := not_mem_of_deeper rr (by simp only [PyData.depth]; omega) hb
    refine ⟨"list", "list.__repr__", F.slot_list_repr.toG, F.slot_list_str, F.slot_list_format, fun s hk0 => ⟨o, hk0 _ _ g, c⟩, fun A E s Q hg hu hk0 hQ => ?_⟩
    simp only [PyData.depth] at hu
    simp only [PyData.shown] at hQ
    obtain ⟨l⟩ := vs
    cases l with
    | nil =>
      cases r
      simp only [PyData.shownAll, listText_nil] at hQ
      exact call_list_repr_empty ⟨o, hk0 _ _ g, c⟩ (hk0 _ _ g) e (hQ s.heap _ _ fun _ _ z => z)
    | cons x l => exact call_list_reprK g c e hna (by simpa using hk.length_eq) (fun i y z => hk.item i y (by simpa using z)) hg (fun b _ => Clear.nil b) hu hk0 hQ hz2
  | tuple g c e r =>
    rename_i o vs n ds
    obtain ⟨as, rr⟩ := r0.reads
    simp only [PyData.showable] at hs
    have hz2 : (tupleText (PyData.shownAll ds)).length ≤ sizeLine := by simpa only [PyData.shown] using hz
    obtain ⟨bs, hb, hk⟩ := RqA.go (P := P) (w := w) (fun v d m h1 h2 => Rq.repr (rqa_at r m) h1 h2) r hs fun t ht => Nat.le_trans (tupleText_mem_le ht) hz2
    have hna : a ∉ bs := not_mem_of_deeper rr (by simp only [PyData.depth]; omega) hb
    refine ⟨"tuple", "tuple.__repr__", F.slot_tuple_repr, F.slot_tuple_str, F.slot_tuple_format, fun s hk0 => ⟨o, hk0 _ _ g, c⟩, fun A E s Q hg hu hk0 hQ => ?_⟩
    simp only [PyData.depth] at hu
    simp only [PyData.shown] at hQ
    exact call_tuple_reprK g c e hna hk hg (fun b _ => Clear.nil b) hu hk0 hQ hz2
  | dict g c e z q =>
    rename_i o es n
    refine ⟨"dict", "dict.__repr__", F.slot_dict_repr, F.slot_dict_str, F.slot_dict_format, fun s hk0 => ⟨o, hk0 _ _ g, c⟩, fun A E s Q hg hu hk0 hQ => ?_⟩
    simp only [PyData.depth, PyData.depthKv] at hu
    simp only [PyData.shown, PyData.shownKv] at hQ hz
    exact call_dict_reprK (as := []) g c e q (by simp) (ps := []) (by rw [z]; exact .nil) hg (fun b _ => Clear.nil b) hu hk0 hQ hz
end
/-! ### data by the ledger, empty dicts among them -/
mutual
inductive Dv (L : Lg) : V → PyData → Prop where
  | non : Dv L .non .none
  | bl (b : Bool) : Dv L (.bl b) (.bool b)
  | int (i : Int) : Dv L (.int i) (.int i)
  | str (z : Str) : Dv L (.str z) (.str z)
  | lst {a : Addr} {xs : List V} {ds : List PyData} (m : (a, .lst xs) ∈ L) (r : DvAll L xs ds) : Dv L (.ref a) (.list ds)
  | tup {a : Addr} {xs : List V} {ds : List PyData} (m : (a, .tup xs) ∈ L) (r : DvAll L xs ds) : Dv L (.ref a) (.tuple ds)
  | dct {a : Addr} (m : (a, .dK []) ∈ L) : Dv L (.ref a) (.dict [])
inductive DvAll (L : Lg) : List V → List PyData → Prop where
  | nil : DvAll L [] []
  | cons {x : V} {xs : List V} {d : PyData} {ds : List PyData} (h : Dv L x d) (r : DvAll L xs ds) : DvAll L (x :: xs) (d :: ds)
end
mutual
theorem Dv.mono {L M : Lg} (s : ∀ p ∈ L, p ∈ M) : ∀ {x : V} {d : PyData}, Dv L x d → Dv M x d
  | _, _, .non => .non
  | _, _, .bl b => .bl b
  | _, _, .int i => .int i
  | _, _, .str z => .str z
  | _, _, .lst m h => .lst (s _ m) (DvAll.mono s h)
  | _, _, .tup m h => .tup (s _ m) (DvAll.mono s h)
  | _, _, .dct m => .dct (s _ m)
theorem DvAll.mono {L M : Lg} (s : ∀ p ∈ L, p ∈ M) : ∀ {xs : List V} {ds : List PyData}, DvAll L xs ds → DvAll M xs ds
  | _, _, .nil => .nil
  | _, _, .cons h r => .cons (Dv.mono s h) (DvAll.mono s r)
end
mutual
theorem Dt.dv {L : Lg} : ∀ {x : V} {d : PyData}, Dt L x d → Dv L x d
  | _, _, .non => .non
  | _, _, .bl b => .bl b
  | _, _, .int i => .int i
  | _, _, .str z => .str z
  | _, _, .lst m h => .lst m (DtAll.dv h)
  | _, _, .tup m h => .tup m (DtAll.dv h)
theorem DtAll.dv {L : Lg} : ∀ {xs : List V} {ds : List PyData}, DtAll L xs ds → DvAll L xs ds
  | _, _, .nil => .nil
  | _, _, .cons h r => .cons (Dt.dv h) (DtAll.dv r)
end
theorem DvAll.len {L : Lg} : ∀ {xs : List V} {ds : List PyData}, DvAll L xs ds → xs.length = ds.length
  | _, _, .nil => rfl
  | _, _, .cons _ r => by rw [List.length_cons, List.length_cons, r.len]
theorem DvAll.get {L : Lg} : ∀ {xs : List V} {ds : List PyData} {i : Nat} {x : V}, DvAll L xs ds → xs[i]? = some x → ∃ d, ds[i]? = some d ∧ Dv L x d
  | _, _, 0, _, .cons h _, e => by cases e; exact ⟨_, rfl, h⟩
  | _, _, i + 1, _, .cons _ r, e => r.get (i := i) (by simpa using e)
theorem DvAll.ints {L : Lg} (ns : List Int) : DvAll L (ns.map V.int) (ns.map PyData.int) := (DtAll.ints ns).dv
theorem DvAll.app {L : Lg} : ∀ {xs ys : List V} {ds es : List PyData}, DvAll L xs ds → DvAll L ys es → DvAll L (xs ++ ys) (ds ++ es)
  | _, _, _, _, .nil, h => h
  | _, _, _, _, .cons h r, h2 => .cons h (r.app h2)
theorem Dv.ints {L : Lg} {a : Addr} {ns : List Int} (h : (a, .lst (ns.map V.int)) ∈ L) : Dv L (.ref a) (.list (ns.map PyData.int)) := .lst h (.ints ns)
theorem Dv.intsT {L : Lg} {a : Addr} {ns : List Int} (h : (a, .tup (ns.map V.int)) ∈ L) : Dv L (.ref a) (.tuple (ns.map PyData.int)) := .tup h (.ints ns)
theorem Dv.ty {L : Lg} {x : V} {d : PyData} (h : Dv L x d) : HasTy L x (dtName d) := by
  cases h with
  | non => exact .non
  | bl b => exact .bl b
  | int i => exact .int i
  | str z => exact .str z
  | lst m _ => exact .lst m
  | tup m _ => exact .tup m
  | dct m => exact .dct m
section
variable {X : Cx} {pins : List (Addr × Obj)} {σ : L2.St} {H : Hp} {s : Shared} {L : Lg}
mutual
theorem Dv.rq (I : Inv X pins σ H s) (l : Led H L) : ∀ {x : V} {d : PyData} {u : Value}, Dv L x d → RelV x u → Rq s.heap u d
  | _, _, _, .non, r => by cases r; exact .none
  | _, _, _, .bl b, r => by cases r; exact .bool b
  | _, _, _, .int i, r => by obtain ⟨t, rfl⟩ := r; exact .int i t
  | _, _, _, .str z, r => by obtain ⟨t, rfl⟩ := r; exact .str z t
  | _, _, _, .lst m h, r => by
    cases r
    obtain ⟨its, rv, ⟨o, n, ho, hc, _, hd⟩, _⟩ := I.list (.inl (.inl (l.has _ m)))
    exact .list ho hc hd (by rw [List.toList_toArray]; exact DvAll.rq I l h rv)
  | _, _, _, .tup m h, r => by
    cases r
    obtain ⟨its, rv, ⟨o, ho, hc, n, hd⟩, _⟩ := I.tuple (.inl (.inl (l.has _ m)))
    exact .tuple ho hc hd (by rw [List.toList_toArray]; exact DvAll.rq I l h rv)
  | _, _, _, .dct m, r => by
    cases r
    obtain ⟨_, hq, vs, rel, o, es, ep, e, x, hd, _, pr, _⟩ := I.hok _ _ (l.has _ m)
    cases rel
    refine .dict e x.1 hd ?_ hq
    revert pr
    generalize es.toList = l
    intro pr
    cases pr; rfl
theorem DvAll.rq (I : Inv X pins σ H s) (l : Led H L) : ∀ {xs : List V} {ds : List PyData} {us : List Value}, DvAll L xs ds → Vals xs us → RqA s.heap us ds
  | _, _, _, .nil, r => by cases r; exact .nil
  | _, _, _, .cons h q, r => by
    cases r with
    | cons r1 r2 => exact .cons (Dv.rq I l h r1) (DvAll.rq I l q r2)
end
end
end Hz
namespace Hz
open PySem PySem.Spec PyProof.Rows L2 RZ
/-! ### what can be shown -/
/-- d's text has at most n signs, it is nested at most k deep -/
def Sz (n k : Nat) (d : PyData) : Prop := d.showable = true ∧ d.depth ≤ k ∧ d.shown.length ≤ n
theorem Sz.le {n k m j : Nat} {d : PyData} (h : Sz n k d) (e1 : n ≤ m) (e2 : k ≤ j) : Sz m j d := ⟨h.1, Nat.le_trans h.2.1 e2, Nat.le_trans h.2.2 e1⟩
theorem Sz.none : Sz 4 0 .none := ⟨by simp only [PyData.showable], by simp only [PyData.depth]; omega, by simp only [PyData.shown]; decide⟩
theorem Sz.bool (b : Bool) : Sz 5 0 (.bool b) := ⟨by simp only [PyData.showable], by simp only [PyData.depth]; omega, by cases b <;> simp only [PyData.shown] <;> decide⟩
theorem Sz.int {i : Int} (N : Nat) (h0 : 0 < N) (h1 : N ≤ 1000) (h : i.natAbs < 2 ^ N) : Sz (N + 1) 0 (.int i) := by
  have z := PySem.Flt.log2_lt_of h0 h
  refine ⟨by simp only [PyData.showable, decide_eq_true_eq]; omega, by simp only [PyData.depth]; omega, ?_⟩
  simp only [PyData.shown]
  rw [PySem.ofString_length]
  exact int_text_length_le h0 z
theorem Sz.str {z : Str} (h : ∀ c ∈ z.cps.toList, c < 16 ^ 8) : Sz (10 * z.cps.size + 8) 0 (.str z) := by
  refine ⟨by simp only [PyData.showable], by simp only [PyData.depth]; omega, ?_⟩
  have := PyData.shown_le 8 (by decide) (.str z) (by simp only [PyData.leavesShort, List.all_eq_true, decide_eq_true_eq]; exact h)
  simpa only [PyData.weight] using this
theorem Sz.dct : Sz 2 1 (.dict []) := ⟨by simp only [PyData.showable, PyData.showableKv], by simp only [PyData.depth, PyData.depthKv]; omega, by simp only [PyData.shown, PyData.shownKv]; decide⟩
theorem sz_show {n k : Nat} : ∀ {ds : List PyData}, (∀ d ∈ ds, Sz n k d) → PyData.showableAll ds = true
  | [], _ => by simp only [PyData.showableAll]
  | d :: r, h => by simp only [PyData.showableAll, (h d (.head _)).1, sz_show fun e m => h e (.tail _ m), Bool.and_self]
theorem sz_deep {n k : Nat} : ∀ {ds : List PyData}, (∀ d ∈ ds, Sz n k d) → PyData.depthAll ds ≤ k
  | [], _ => by simp only [PyData.depthAll]; omega
  | d :: r, h => by
    have h1 := (h d (.head _)).2.1
    have h2 := sz_deep (ds := r) fun e m => h e (.tail _ m)
    simp only [PyData.depthAll]; omega
theorem sz_sum {n k : Nat} : ∀ {ds : List PyData}, (∀ d ∈ ds, Sz n k d) → ((PyData.shownAll ds).map (·.length)).sum ≤ ds.length * n ∧ (PyData.shownAll ds).length = ds.length
  | [], _ => by simp [PyData.shownAll]
  | d :: r, h => by
    have h1 := (h d (.head _)).2.2
    obtain ⟨h2, h3⟩ := sz_sum (ds := r) fun e m => h e (.tail _ m)
    simp only [PyData.shownAll, List.map_cons, List.sum_cons, List.length_cons, h3, Nat.add_mul, Nat.one_mul]
    exact ⟨by omega, trivial⟩
theorem Sz.list {n k : Nat} {ds : List PyData} (m : Nat) (h : ∀ d ∈ ds, Sz n k d) (hl : ds.length ≤ m) : Sz (m * n + 2 * m + 3) (k + 1) (.list ds) := by
  obtain ⟨h1, h2⟩ := sz_sum h
  refine ⟨by simp only [PyData.showable]; exact sz_show h, by have := sz_deep h; simp only [PyData.depth]; omega, ?_⟩
  have h3 := listText_len_le (PyData.shownAll ds)
  have h4 : ds.length * n ≤ m * n := Nat.mul_le_mul_right _ hl
  simp only [PyData.shown]
  omega
theorem Sz.tuple {n k : Nat} {ds : List PyData} (m : Nat) (h : ∀ d ∈ ds, Sz n k d) (hl : ds.length ≤ m) : Sz (m * n + 2 * m + 3) (k + 1) (.tuple ds) := by
  obtain ⟨h1, h2⟩ := sz_sum h
  refine ⟨by simp only [PyData.showable]; exact sz_show h, by have := sz_deep h; simp only [PyData.depth]; omega, ?_⟩
  have h3 := tupleText_len_le (PyData.shownAll ds)
  have h4 : ds.length * n ≤ m * n := Nat.mul_le_mul_right _ hl
  simp only [PyData.shown]
  omega
theorem Sz.ints {ns : List Int} (N m : Nat) (h0 : 0 < N) (h1 : N ≤ 1000) (h : ∀ n ∈ ns, n.natAbs < 2 ^ N) (hl : ns.length ≤ m) : Sz (m * (N + 1) + 2 * m + 3) 1 (.list (ns.map PyData.int)) :=
  Sz.list m (fun d hd => by obtain ⟨n, hn, rfl⟩ := List.mem_map.mp hd; exact Sz.int N h0 h1 (h n hn)) (by rw [List.length_map]; exact hl)
theorem Sz.intsT {ns : List Int} (N m : Nat) (h0 : 0 < N) (h1 : N ≤ 1000) (h : ∀ n ∈ ns, n.natAbs < 2 ^ N) (hl : ns.length ≤ m) : Sz (m * (N + 1) + 2 * m + 3) 1 (.tuple (ns.map PyData.int)) :=
  Sz.tuple m (fun d hd => by obtain ⟨n, hn, rfl⟩ := List.mem_map.mp hd; exact Sz.int N h0 h1 (h n hn)) (by rw [List.length_map]; exact hl)
/-! ### repr of data -/
section
variable {X : Cx}
/-- repr(x), x data by any ledger that the heap holds -/
def rReprV : List V → Hp → VK → Prop := fun xs H Q => ∃ x d L, xs = [x] ∧ Led H L ∧ Dv L x d ∧ d.showable = true ∧ d.depth < 60 ∧ d.shown.length ≤ sizeLine ∧ Q (.str d.shown) H
theorem call_reprV (gd : X.A.guards = some []) (hu : X.A.units + 64 < cLine) : CallR X (.builtin "repr") rReprV := by
  intro pins s σ H xs us Q I r h
  obtain ⟨x, d, L, rfl, l, hd, hs, hk, hz, q⟩ := h
  obtain ⟨u, rfl, ru⟩ := vals1 r
  have rq := hd.rq I l ru
  have deep : ∀ {a : Addr}, Rq s.heap (.ref a) d → wpAny (model X.prog X.w) X.A (call (.builtin "repr") [.ref a]) (EP X pins σ Q) X.xe s := fun {a} rq => by
    obtain ⟨T, idr, S⟩ := rq.shows (P := X.prog) (w := X.w) hs hz
    exact call_repr_slot (by omega) (S.typeIs s fun _ _ z => z) S.slotRepr (S.call X.A.in1 X.xe s _ gd (by show X.A.units + 1 + d.depth < cLine; omega) (fun _ _ z => z) fun h' u tk hk => ⟨_, _, rfl, ⟨.str _, H, I.kept hk, ⟨_, rfl⟩, q⟩⟩)
  cases hd with
  | non =>
    cases (show u = Value.none from ru)
    exact PySem.P.repr_of_none ⟨.str _, H, I.tok _, ⟨_, rfl⟩, by simpa only [PyData.shown] using q⟩
  | bl b =>
    cases (show u = Value.bool b from ru)
    exact PySem.P.repr_of_bool ⟨.str _, H, I.tok _, ⟨_, rfl⟩, by simpa only [PyData.shown] using q⟩
  | int i =>
    obtain ⟨t, rfl⟩ := ru
    exact PySem.P.repr_of_int (by simpa [PyData.showable] using hs) ⟨.str _, H, I.tok _, ⟨_, rfl⟩, by simpa only [PyData.shown] using q⟩
  | str y =>
    obtain ⟨t, rfl⟩ := ru
    exact PySem.P.repr_of_str ⟨.str _, H, I.tok _, ⟨_, rfl⟩, by simpa only [PyData.shown] using q⟩ (by simpa only [PyData.shown] using hz)
  | lst _ _ =>
    cases (show u = Value.ref _ from ru)
    exact deep rq
  | tup _ _ =>
    cases (show u = Value.ref _ from ru)
    exact deep rq
  | dct _ =>
    cases (show u = Value.ref _ from ru)
    exact deep rq
end
section
variable {L M R : Lg} {Q : VK} {x : V} {d : PyData} {a : Addr}
theorem t_reprV (hd : Dv L x d) (n k : Nat) (hs : Sz n k d) (hn : n ≤ 16777216) (hk : k < 60) (q : Tr L fun H => Q (.str d.shown) H) : Tr L fun H => rReprV [x] H Q :=
  fun H l => ⟨x, d, L, rfl, l, hd, hs.1, Nat.lt_of_le_of_lt hs.2.1 hk, by rw [sizeLine_eq]; exact Nat.le_trans hs.2.2 hn, q H l⟩
theorem t_reprVI {ns : List Int} (hm : (a, .lst (ns.map V.int)) ∈ L) (h : ∀ n ∈ ns, n.natAbs < 2 ^ 1000) (hl : ns.length ≤ 16000) (q : Tr L fun H => Q (.str (reprI ns)) H) : Tr L fun H => rReprV [.ref a] H Q :=
  t_reprV (Dv.ints hm) _ _ (Sz.ints 1000 16000 (by decide) (by decide) h hl) (by decide) (by decide) q
/-! ### what is new stands ahead of what was -/
theorem Pick.app {o : HO} : ∀ (N : Lg) {L R : Lg}, Pick a o L R → Pick a o (N ++ L) (N ++ R)
  | [], _, _, h => h
  | _ :: N, _, _, h => .tail (Pick.app N h)
theorem Sub.app : ∀ (N : Lg) {L M : Lg}, Sub L M → Sub (N ++ L) M
  | [], _, _, h => h
  | _ :: N, _, _, h => .drop (Sub.app N h)
/-- M is N ahead of L -/
inductive Pre : Lg → Lg → Lg → Prop where
  | nil {L : Lg} : Pre L L []
  | cons {x : Addr × HO} {M L N : Lg} : Pre M L N → Pre (x :: M) L (x :: N)
  | app (K : Lg) {M L N : Lg} : Pre M L N → Pre (K ++ M) L (K ++ N)
theorem Pre.eq {M L N : Lg} (h : Pre M L N) : M = N ++ L := by
  induction h with
  | nil => rfl
  | cons _ ih => rw [ih]; rfl
  | app K _ ih => rw [ih, List.append_assoc]
theorem t_pre {o : HO} {N : Lg} {G : Hp → Prop} (hp : Pick a o M R) (h : Pre R L N) (k : Tr ((a, o) :: (N ++ L)) G) : Tr M G := by
  rw [← h.eq] at k
  exact Tr.pick hp k
theorem t_preV {o : HO} {N : Lg} {G : Hp → Prop} (S : PyData → Prop) (k : ∀ d, Dv (N ++ L) x d → S d → Tr ((a, o) :: (N ++ L)) G) (hp : Pick a o M R) (h : Pre R L N) (key : ∃ d, Dv R x d ∧ S d) : Tr M G := by
  obtain ⟨d, h1, h2⟩ := key
  rw [h.eq] at h1
  exact t_pre hp h (k d h1 h2)
theorem t_pre0 {N : Lg} {G : Hp → Prop} (h : Pre M L N) (k : Tr (N ++ L) G) : Tr M G := by
  rw [h.eq]; exact k
end
end Hz
namespace Hz
open PySem PySem.Spec PyProof.Rows L2 RZ
section
variable {L : Lg} {σ : SS} {Q : VK}
/-- {} -/
theorem t_dnewK (k : ∀ p, Tr ((p, .dK []) :: L) fun H => Q (.ref p) H) : Tr L fun H => tDNewK σ H Q := fun H l p hp => k p _ (l.new hp)
end
end Hz
namespace Hz
open PySem PySem.Spec PyProof.Rows L2 RZ
/-- ways come together: what is known then bears a name -/
theorem t_join {α : Type} {L : Lg} {G : Hp → Prop} {T : Hp → Prop} (X : α → Lg) (J : α → Prop) (k : (∀ y M, J y → Sub M (X y) → Tr M T) → Tr L G) (main : ∀ y, J y → Tr (X y) T) : Tr L G := k fun y M h s => (main y h).sub s
end Hz
namespace Hz
open PySem PySem.Spec PyProof.Rows L2 RZ
section
variable {L R R' : Lg} {Q : VK} {K : PySem.W.Frag} {a b p : Addr} {xs ys : List V}
theorem t_extend (hp : Pick a (.lst xs) L R) (hq : Pick b (.lst ys) L R') (hz : xs.length + ys.length ≤ sizeLine) (k : Tr ((a, .lst (xs ++ ys)) :: R) fun H => Q .non H) : Tr L fun H => rExtend (.ref a) [.ref b] H Q :=
  fun H l => ⟨a, b, xs, ys, rfl, rfl, l.get hp, l.get hq, hz, k _ (l.pick hp).put⟩
/-- xs[i] = v -/
theorem t_setV {i : Int} {v : V} {G : Hp → Prop} (hp : Pick p (.lst xs) L R) (h0 : 0 ≤ i) (h1 : i < xs.length) (k : Tr ((p, .lst (xs.set i.toNat v)) :: R) G) : Tr L fun H => rSetL (.ref p) (.int i) v H G :=
  t_setL (j := i.toNat) hp (by unfold ixN; first | rfl | (split <;> simp_all <;> omega)) k
/-! ### lists of tuples of two ints -/
def prD (p : Int × Int) : PyData := .tuple [.int p.1, .int p.2]
def prsD (ps : List (Int × Int)) : PyData := .list (ps.map prD)
/-- xs are tuples of two ints -/
def Prs (L : Lg) (xs : List V) (ps : List (Int × Int)) : Prop := DtAll L xs (ps.map prD)
theorem Dt.inv {L : Lg} {x : V} {p : Int × Int} (h : Dt L x (prD p)) : ∃ T, x = .ref T ∧ (T, .tup [.int p.1, .int p.2]) ∈ L := by
  unfold prD at h
  cases h with
  | tup m r =>
    cases r with
    | cons h1 r =>
      cases h1
      cases r with
      | cons h2 r =>
        cases h2
        cases r
        exact ⟨_, rfl, m⟩
theorem Dt.pr {L : Lg} {T : Addr} {s l : Int} (m : (T, .tup [.int s, .int l]) ∈ L) : Dt L (.ref T) (prD (s, l)) := .tup m (.cons (.int _) (.cons (.int _) .nil))
theorem Prs.len {L : Lg} {xs : List V} {ps : List (Int × Int)} (h : Prs L xs ps) : xs.length = ps.length := by
  have := DtAll.len h
  rwa [List.length_map] at this
theorem Prs.at {L : Lg} {xs : List V} {ps : List (Int × Int)} (h : Prs L xs ps) {i : Nat} {v : V} (e : xs[i]? = some v) : ∃ T p, v = .ref T ∧ ps[i]? = some p ∧ (T, .tup [.int p.1, .int p.2]) ∈ L := by
  obtain ⟨d, e1, hd⟩ := DtAll.get h e
  rw [List.getElem?_map] at e1
  cases e2 : ps[i]? with
  | none => rw [e2] at e1; cases e1
  | some p =>
    rw [e2] at e1
    cases e1
    obtain ⟨T, rfl, m⟩ := hd.inv
    exact ⟨T, p, rfl, rfl, m⟩
theorem Prs.mono {L M : Lg} (s : ∀ p ∈ L, p ∈ M) {xs : List V} {ps : List (Int × Int)} (h : Prs L xs ps) : Prs M xs ps := DtAll.mono s h
theorem DtAll.app {L : Lg} : ∀ {xs ys : List V} {ds es : List PyData}, DtAll L xs ds → DtAll L ys es → DtAll L (xs ++ ys) (ds ++ es)
  | _, _, _, _, .nil, h => h
  | _, _, _, _, .cons h r, h2 => .cons h (r.app h2)
theorem DtAll.set {L : Lg} : ∀ {xs : List V} {ds : List PyData} {x : V} {d : PyData} (i : Nat), DtAll L xs ds → Dt L x d → DtAll L (xs.set i x) (ds.set i d)
  | _, _, _, _, _, .nil, _ => .nil
  | _, _, _, _, 0, .cons _ r, h => .cons h r
  | _, _, _, _, i + 1, .cons h0 r, h => .cons h0 (r.set i h)
theorem Prs.app {L : Lg} {xs ys : List V} {ps qs : List (Int × Int)} (h : Prs L xs ps) (h2 : Prs L ys qs) : Prs L (xs ++ ys) (ps ++ qs) := by
  unfold Prs
  rw [List.map_append]
  exact DtAll.app h h2
theorem Prs.set {L : Lg} {xs : List V} {ps : List (Int × Int)} {x : V} {p : Int × Int} (i : Nat) (h : Prs L xs ps) (h2 : Dt L x (prD p)) : Prs L (xs.set i x) (ps.set i p) := by
  unfold Prs
  rw [List.map_set]
  exact DtAll.set i h h2
theorem Prs.one {L : Lg} {T : Addr} {s l : Int} (m : (T, .tup [.int s, .int l]) ∈ L) : Prs L [.ref T] [(s, l)] := .cons (.pr m) .nil
theorem Prs.snoc {L : Lg} {xs : List V} {ps : List (Int × Int)} {T : Addr} {s l : Int} (h : Prs L xs ps) (m : (T, .tup [.int s, .int l]) ∈ L) : Prs L (xs ++ [.ref T]) (ps ++ [(s, l)]) := h.app (.one m)
theorem Prs.dt {L : Lg} {xs : List V} {ps : List (Int × Int)} (h : Prs L xs ps) (m : (a, .lst xs) ∈ L) : Dt L (.ref a) (prsD ps) := .lst m h
/-- numbers of at most 110 bits -/
def Sm (ps : List (Int × Int)) : Prop := ∀ p ∈ ps, 0 ≤ p.1 ∧ p.1 < 2 ^ 110 ∧ 0 ≤ p.2 ∧ p.2 < 2 ^ 110
theorem Sz.pr {p : Int × Int} (h : 0 ≤ p.1 ∧ p.1 < 2 ^ 110 ∧ 0 ≤ p.2 ∧ p.2 < 2 ^ 110) : Sz 300 1 (prD p) :=
  (Sz.tuple (n := 111) (k := 0) 2 (fun d hd => by
    simp only [List.mem_cons, List.not_mem_nil, or_false] at hd
    rcases hd with rfl | rfl
    · exact Sz.int 110 (by decide) (by decide) (by omega)
    · exact Sz.int 110 (by decide) (by decide) (by omega)) (by simp)).le (by decide) (by decide)
theorem Sz.prs {ps : List (Int × Int)} (m : Nat) (h : Sm ps) (hl : ps.length ≤ m) : Sz (m * 300 + 2 * m + 3) 2 (prsD ps) :=
  Sz.list m (fun d hd => by obtain ⟨p, hp, rfl⟩ := List.mem_map.mp hd; exact Sz.pr (h p hp)) (by rw [List.length_map]; exact hl)
theorem eqvAll_prs : ∀ ps qs : List (Int × Int), PyData.eqvAll (ps.map prD) (qs.map prD) = decide (ps = qs)
  | [], [] => by simp [PyData.eqvAll]
  | [], _ :: _ => by simp [PyData.eqvAll]
  | _ :: _, [] => by simp [PyData.eqvAll]
  | (s, l) :: r, (s', l') :: r' => by
    simp only [List.map_cons, PyData.eqvAll, prD, PyData.eqv, eqvAll_prs r r', List.cons.injEq, Prod.mk.injEq, Bool.decide_and, Bool.and_true]
    rfl
theorem eqv_prs (ps qs : List (Int × Int)) : PyData.eqv (prsD ps) (prsD qs) = decide (ps = qs) := by
  simp only [prsD, PyData.eqv, eqvAll_prs]
theorem shaped_prs (ps : List (Int × Int)) : SeqAt.shaped (prsD ps) = true := by
  have c : ∀ ps : List (Int × Int), PyData.canLayAll0 (ps.map prD) = true := by
    intro ps
    induction ps with
    | nil => simp [PyData.canLayAll0]
    | cons n r ih => simp [PyData.canLayAll0, PyData.canLay0, prD, ih]
  have d : ∀ ps : List (Int × Int), PyData.depthAll (ps.map prD) ≤ 1 := by
    intro ps
    induction ps with
    | nil => simp [PyData.depthAll]
    | cons n r ih =>
      simp only [List.map_cons, PyData.depthAll, prD, PyData.depth]
      exact Nat.max_le.mpr ⟨by decide, ih⟩
  have := d ps
  unfold SeqAt.shaped prsD
  simp [PyData.canLay0, c, PyData.depth]
  omega
theorem t_eqPrs {ps qs : List (Int × Int)} (ha : Dt L (.ref a) (prsD ps)) (hb : Dt L (.ref b) (prsD qs)) (k : Tr L fun H => Q (.bl (decide (ps = qs))) H) : Tr L fun H => rEqD K (.ref a) (.ref b) H Q :=
  t_eqD ha.dpl hb.dpl (shaped_prs ps) (shaped_prs qs) (by rw [eqv_prs]; exact k)
theorem t_nePrs {ps qs : List (Int × Int)} (ha : Dt L (.ref a) (prsD ps)) (hb : Dt L (.ref b) (prsD qs)) (k : Tr L fun H => Q (.bl (!decide (ps = qs))) H) : Tr L fun H => rNeD K (.ref a) (.ref b) H Q :=
  t_neD ha.dpl hb.dpl (shaped_prs ps) (shaped_prs qs) (by rw [eqv_prs]; exact k)
end
end Hz
namespace Hz
open PySem PySem.Spec PyProof.Rows L2 RZ
/-- ways come together: two ints, o otherwise known -/
theorem t_joinP {L : Lg} {G : Hp → Prop} {T : Int → Int → Hp → Prop} (X : Int → Int → HO → Lg) (J : Int → Int → HO → Prop) (k : (∀ i j o M, J i j o → Sub M (X i j o) → Tr M (T i j)) → Tr L G) (main : ∀ i j o, J i j o → Tr (X i j o) (T i j)) : Tr L G := k fun i j o M h s => (main i j o h).sub s
end Hz
namespace Hz
open PySem PySem.Spec PyProof.Rows L2 RZ
/-- ns[:i], i may lie behind the end -/
theorem cutI_upto {ns : List Int} {i : Int} (h0 : 0 ≤ i) : cutI ns none (some i) = ns.take i.toNat := by
  unfold cutI
  have e : HT.sIx ns.length ns.length (some i) = min i.toNat ns.length := by
    show (if i < 0 then _ else min i.toNat ns.length) = min i.toNat ns.length
    rw [if_neg (by omega)]
  rw [e]
  show (ns.drop 0).take (min i.toNat ns.length - 0) = ns.take i.toNat
  rw [List.drop_zero, Nat.sub_zero, ← List.take_take, List.take_length]
end Hz
namespace Hz
open PySem PySem.Spec PyProof.Rows L2 RZ
/-- part of what is known bears a name from here on -/
theorem t_gen {α : Type} {L : Lg} {G : Hp → Prop} (X : α → Lg) (J : α → Prop) (y : α) (hJ : J y) (s : Sub L (X y)) (main : ∀ y, J y → Tr (X y) G) : Tr L G := (main y hJ).sub s
theorem fl_nil {α : Type} {b : Nat → Bool} {o : Nat → α} {n : Nat} : fl b o n = [] ↔ ∀ i, i < n → b i = false := by
  unfold fl
  rw [List.map_eq_nil_iff, List.filter_eq_nil_iff]
  constructor
  · intro h i hi
    exact Bool.eq_false_iff.mpr (h i (List.mem_range.mpr hi))
  · intro h i hi
    rw [h i (List.mem_range.mp hi)]; decide
/-- a comprehension's emptiness: all do -/
theorem fl_all_eq {α : Type} [Inhabited α] (ps : List α) (f : α → Bool) (o : Nat → Int) : decide (fl (fun t => !f (ps.getD t default)) o ps.length = []) = ps.all f := by
  rw [Bool.eq_iff_iff, decide_eq_true_eq, fl_nil, List.all_eq_true]
  constructor
  · intro h x hx
    obtain ⟨i, hi⟩ := List.mem_iff_getElem?.mp hx
    have := h i (List.getElem?_eq_some_iff.mp hi).1
    rw [List.getD_eq_getElem?_getD, hi] at this
    simpa using this
  · intro h i hi
    have := h ps[i] (List.getElem_mem hi)
    rw [List.getD_eq_getElem?_getD, List.getElem?_eq_getElem hi]
    simpa using this
theorem getD_of {α : Type} [Inhabited α] {ps : List α} {i : Nat} {x : α} (h : ps[i]? = some x) : ps.getD i default = x := by rw [List.getD_eq_getElem?_getD, h]; rfl
end Hz
namespace Hz
open PySem PySem.Spec PyProof.Rows L2 RZ
theorem Prs.pick {L : Lg} {xs : List V} {ps : List (Int × Int)} (h : Prs L xs ps) {i : Int} (h0 : 0 ≤ i) (h1 : i < ps.length) : ∃ T p, L2.atI xs i = some (.ref T) ∧ ps[i.toNat]? = some p ∧ p ∈ ps ∧ (T, .tup [.int p.1, .int p.2]) ∈ L := by
  have hl := h.len
  have hv : xs[i.toNat]? = some (xs[i.toNat]'(by omega)) := List.getElem?_eq_getElem (by omega)
  obtain ⟨T, p, e, e2, m⟩ := h.at hv
  rw [e] at hv
  have := atI_nat hv
  rw [Int.toNat_of_nonneg h0] at this
  exact ⟨T, p, this, e2, List.mem_of_getElem? e2, m⟩
end Hz
namespace Hz
open PySem PySem.Spec PyProof.Rows L2 RZ
/-- ns[i:], i may lie behind the end -/
theorem cutI_after {ns : List Int} {i : Int} (h0 : 0 ≤ i) : cutI ns (some i) none = ns.drop i.toNat := by
  unfold cutI
  have e : HT.sIx ns.length 0 (some i) = min i.toNat ns.length := by
    show (if i < 0 then _ else min i.toNat ns.length) = min i.toNat ns.length
    rw [if_neg (by omega)]
  rw [e]
  show (ns.drop (min i.toNat ns.length)).take (ns.length - min i.toNat ns.length) = ns.drop i.toNat
  rw [List.take_of_length_le (by rw [List.length_drop]; exact Nat.le_refl _)]
  by_cases c : i.toNat ≤ ns.length
  · rw [Nat.min_eq_left c]
  · rw [Nat.min_eq_right (by omega), List.drop_length, List.drop_of_length_le (by omega)]
end Hz
namespace Hz
open PySem PySem.Spec PyProof.Rows L2 RZ
/-! ### lists of lists of ints -/
def rwD (r : List Int) : PyData := .list (r.map PyData.int)
/-- xs are lists of ints -/
def Rws (L : Lg) (xs : List V) (rs : List (List Int)) : Prop := DtAll L xs (rs.map rwD)
theorem Dt.rw_inv {L : Lg} {x : V} {r : List Int} (h : Dt L x (rwD r)) : ∃ T, x = .ref T ∧ (T, .lst (r.map V.int)) ∈ L := by
  unfold rwD at h
  cases h with
  | lst m q =>
    rename_i a xs
    have : ∀ {xs : List V} {zs : List Int}, DtAll L xs (zs.map PyData.int) → xs = zs.map V.int := by
      intro xs
      induction xs with
      | nil => intro zs h; cases zs <;> first | rfl | cases h
      | cons x r ih =>
        intro zs h
        cases zs with
        | nil => cases h
        | cons z s =>
          cases h with
          | cons h1 h2 =>
            cases h1
            rw [ih h2]; rfl
    rw [this q] at m
    exact ⟨_, rfl, m⟩
theorem Rws.len {L : Lg} {xs : List V} {rs : List (List Int)} (h : Rws L xs rs) : xs.length = rs.length := by
  have := DtAll.len h
  rwa [List.length_map] at this
theorem Rws.at {L : Lg} {xs : List V} {rs : List (List Int)} (h : Rws L xs rs) {i : Nat} {v : V} (e : xs[i]? = some v) : ∃ T r, v = .ref T ∧ rs[i]? = some r ∧ (T, .lst (r.map V.int)) ∈ L := by
  obtain ⟨d, e1, hd⟩ := DtAll.get h e
  rw [List.getElem?_map] at e1
  cases e2 : rs[i]? with
  | none => rw [e2] at e1; cases e1
  | some r =>
    rw [e2] at e1
    cases e1
    obtain ⟨T, rfl, m⟩ := hd.rw_inv
    exact ⟨T, r, rfl, rfl, m⟩
theorem Rws.mono {L M : Lg} (s : ∀ p ∈ L, p ∈ M) {xs : List V} {rs : List (List Int)} (h : Rws L xs rs) : Rws M xs rs := DtAll.mono s h
theorem Rws.app {L : Lg} {xs ys : List V} {ps qs : List (List Int)} (h : Rws L xs ps) (h2 : Rws L ys qs) : Rws L (xs ++ ys) (ps ++ qs) := by
  unfold Rws
  rw [List.map_append]
  exact DtAll.app h h2
theorem Rws.one {L : Lg} {T : Addr} {r : List Int} (m : (T, .lst (r.map V.int)) ∈ L) : Rws L [.ref T] [r] := .cons (Dt.ints m) .nil
theorem Rws.snoc {L : Lg} {xs : List V} {rs : List (List Int)} {T : Addr} {r : List Int} (h : Rws L xs rs) (m : (T, .lst (r.map V.int)) ∈ L) : Rws L (xs ++ [.ref T]) (rs ++ [r]) := h.app (.one m)
theorem Rws.set {L : Lg} {xs : List V} {rs : List (List Int)} {T : Addr} {r : List Int} (i : Nat) (h : Rws L xs rs) (m : (T, .lst (r.map V.int)) ∈ L) : Rws L (xs.set i (.ref T)) (rs.set i r) := by
  unfold Rws
  rw [List.map_set]
  exact DtAll.set i h (Dt.ints m)
theorem Rws.pick {L : Lg} {xs : List V} {rs : List (List Int)} (h : Rws L xs rs) {i : Int} (h0 : 0 ≤ i) (h1 : i < rs.length) : ∃ T r, L2.atI xs i = some (.ref T) ∧ rs[i.toNat]? = some r ∧ r ∈ rs ∧ (T, .lst (r.map V.int)) ∈ L := by
  have hl := h.len
  have hv : xs[i.toNat]? = some (xs[i.toNat]'(by omega)) := List.getElem?_eq_getElem (by omega)
  obtain ⟨T, p, e, e2, m⟩ := h.at hv
  rw [e] at hv
  have := atI_nat hv
  rw [Int.toNat_of_nonneg h0] at this
  exact ⟨T, p, this, e2, List.mem_of_getElem? e2, m⟩
/-- a comprehension's emptiness, the other way -/
theorem fl_any_eq {α : Type} [Inhabited α] (ps : List α) (f : α → Bool) (o : Nat → Int) : decide (fl (fun t => f (ps.getD t default)) o ps.length = []) = !ps.any f := by
  have h := fl_all_eq ps (fun x => !f x) o
  simp only [Bool.not_not] at h
  rw [h, List.not_any_eq_all_not]
end Hz
namespace Hz
open PySem PySem.Spec PyProof.Rows L2 RZ
/-- a value by two ways, what follows is walked once -/
theorem t_ifV {α : Type} {L : Lg} {σ σ' : SS} {b : Bool} {ta tb : TE} {Q : VK} (S : α → V) (X : α → Lg) (J : α → Prop) (h1 : b = true → ∀ Q : VK, (∀ y, J y → ∀ M, Sub M (X y) → Tr M fun H => Q (S y) H) → Tr L fun H => ta σ H Q)
    (h2 : b = false → ∀ Q : VK, (∀ y, J y → ∀ M, Sub M (X y) → Tr M fun H => Q (S y) H) → Tr L fun H => tb σ' H Q) (k : ∀ y, J y → Tr (X y) fun H => Q (S y) H) : Tr L fun H => if b = true then ta σ H Q else tb σ' H Q :=
  t_ite (fun h => h1 h Q fun y j _ s => (k y j).sub s) fun h => h2 h Q fun y j _ s => (k y j).sub s
end Hz
namespace Hz
open PySem PySem.Spec PyProof.Rows L2 RZ
theorem Sub.keep : ∀ (N : Lg) {L M : Lg}, Sub L M → Sub (N ++ L) (N ++ M)
  | [], _, _, h => h
  | _ :: N, _, _, h => .take .head (Sub.keep N h)
end Hz

/-! Hz, part K: dicts by the ledger. -/
namespace Hz
open PySem PySem.Spec PyProof.Rows L2 RZ
theorem RoomG.u1 {k : Nat} {A : Around} (r : RoomG k A) : A.units + 1 < cLine := by have := r.rm.un; omega
/-- what an int key holds -/
def dv (kvs : List (Key × V)) (i : Int) : Option V := valV kvs (Sum.inl i)
theorem dv_nil (i : Int) : dv [] i = none := rfl
theorem dv_put (kvs : List (Key × V)) (k j : Int) (v : V) : dv (putK kvs (Sum.inl k) v) j = if j = k then some v else dv kvs j := by
  unfold dv
  rw [valV_put]
  by_cases c : j = k
  · rw [if_pos c, if_pos (by rw [c])]
  · rw [if_neg c, if_neg (fun e => c (by injection e))]
/-- the keys are few -/
structure Few (n : Nat) (kvs : List (Key × V)) : Prop where
  nd : (kvs.map (·.1)).Nodup
  rg : ∀ p ∈ kvs, ∃ i : Int, p.1 = Sum.inl i ∧ 0 ≤ i ∧ i < n
theorem Few.nil (n : Nat) : Few n [] := ⟨List.nodup_nil, fun _ h => nomatch h⟩
theorem few_ints : ∀ (B : Nat) (ks : List Int), ks.Nodup → (∀ k ∈ ks, 0 ≤ k ∧ k < B) → ks.length ≤ B
  | 0, [], _, _ => Nat.le_refl _
  | 0, k :: r, _, h => absurd (h k (.head _)) (by omega)
  | B + 1, ks, nd, h => by
    have a := few_ints B (ks.filter fun k => decide (k ≠ (B : Int))) (nd.filter _) fun k hk => by
      obtain ⟨h1, h2⟩ := List.mem_filter.mp hk
      have := h k h1
      have := of_decide_eq_true h2
      omega
    have b : ks.length ≤ (ks.filter fun k => decide (k ≠ (B : Int))).length + 1 := by
      clear a h
      induction ks with
      | nil => simp
      | cons k r ih =>
        have nr := List.nodup_cons.mp nd
        by_cases c : k = (B : Int)
        · have : (r.filter fun k => decide (k ≠ (B : Int))) = r := List.filter_eq_self.mpr fun x hx => decide_eq_true fun e => nr.1 (by rw [c, ← e]; exact hx)
          rw [List.filter_cons, if_neg (by rw [decide_eq_true_eq]; exact fun h => h c), this, List.length_cons]
          exact Nat.le_refl _
        · rw [List.filter_cons, if_pos (decide_eq_true c), List.length_cons, List.length_cons]
          have := ih nr.2
          omega
    omega
theorem Few.len {n : Nat} {kvs : List (Key × V)} (h : Few n kvs) : kvs.length ≤ n := by
  have key : ∀ {l : List (Key × V)}, (l.map (·.1)).Nodup → (∀ p ∈ l, ∃ i : Int, p.1 = Sum.inl i ∧ 0 ≤ i ∧ i < n) → ∃ ks : List Int, l.map (·.1) = ks.map Sum.inl ∧ ∀ k ∈ ks, 0 ≤ k ∧ k < n := fun {l} _ hr => by
    induction l with
    | nil => exact ⟨[], rfl, fun _ h => nomatch h⟩
    | cons p r ih =>
      rename_i hnd
      obtain ⟨i, e, b⟩ := hr p (.head _)
      obtain ⟨ks, e2, b2⟩ := ih (List.nodup_cons.mp hnd).2 fun q hq => hr q (.tail _ hq)
      refine ⟨i :: ks, by rw [List.map_cons, e, e2]; rfl, fun k hk => ?_⟩
      rcases List.mem_cons.mp hk with rfl | hk
      · exact b
      · exact b2 k hk
  obtain ⟨ks, e, b⟩ := key h.nd h.rg
  have nd := h.nd
  rw [e] at nd
  have nd2 : ks.Nodup := by
    refine (List.pairwise_map.mp nd).imp fun {a b} h e => h (by rw [e])
  have := few_ints n ks nd2 b
  have el : kvs.length = ks.length := by rw [← List.length_map (f := (·.1)) (as := kvs), e, List.length_map]
  omega
theorem Few.put {n : Nat} {kvs : List (Key × V)} (h : Few n kvs) {i : Int} (h0 : 0 ≤ i) (h1 : i < n) (v : V) : Few n (putK kvs (Sum.inl i) v) := by
  unfold putK
  split
  · refine ⟨?_, fun p hp => ?_⟩
    · rw [List.map_map]
      have : ((fun kv : Key × V => kv.1) ∘ fun kv : Key × V => if kv.1 = Sum.inl i then (kv.1, v) else kv) = fun kv => kv.1 := by
        funext kv
        show (if kv.1 = Sum.inl i then (kv.1, v) else kv).1 = kv.1
        split <;> rfl
      rw [this]
      exact h.nd
    · obtain ⟨q, hq, e⟩ := List.mem_map.mp hp
      obtain ⟨j, ej, bj⟩ := h.rg q hq
      refine ⟨j, ?_, bj⟩
      rw [← e]
      split
      · exact ej
      · exact ej
  · rename_i c
    refine ⟨?_, fun p hp => ?_⟩
    · rw [List.map_append, List.map_cons, List.map_nil]
      refine List.nodup_append.mpr ⟨h.nd, by simp, fun a ha b hb => ?_⟩
      rw [List.mem_singleton.mp hb]
      rintro rfl
      obtain ⟨q, hq, e⟩ := List.mem_map.mp ha
      exact c (List.any_eq_true.mpr ⟨q, hq, decide_eq_true e⟩)
    · rcases List.mem_append.mp hp with hp | hp
      · exact h.rg p hp
      · rw [List.mem_singleton.mp hp]; exact ⟨i, rfl, h0, h1⟩
/-! ### readings -/
def dIn (x y : V) (H : Hp) (Q : VK) : Prop := ∃ a o, x = .ref a ∧ DGet H a y o ∧ Q (.bl o.isSome) H
def dNotIn (x y : V) (H : Hp) (Q : VK) : Prop := ∃ a o, x = .ref a ∧ DGet H a y o ∧ Q (.bl (!o.isSome)) H
def dAt (x y : V) (H : Hp) (Q : VK) : Prop := ∃ a v, x = .ref a ∧ DGet H a y (some v) ∧ Q v H
def dGet1 (a : Addr) (y : V) (H : Hp) (Q : VK) : Prop := ∃ o, DGet H a y o ∧ Q (o.getD .non) H
def dPut (x y v : V) (H : Hp) (G : Hp → Prop) : Prop := ∃ a H4, x = .ref a ∧ DPut H a y v H4 ∧ G H4
section
variable {L R R' : Lg} {σ : SS} {Q : VK} {a b : Addr} {kvs : List (Key × V)} {tvs : List (List Key × V)} {td ty tv : TE} {D : Ends} {i j : Int} {v : V} {G : Hp → Prop}
theorem t_din (k : Tr L fun H => ty σ H fun y H1 => td σ H1 fun x H2 => dIn x y H2 Q) : Tr L fun H => tDIn ty td σ H Q := k
theorem t_dnin (k : Tr L fun H => ty σ H fun y H1 => td σ H1 fun x H2 => dNotIn x y H2 Q) : Tr L fun H => tDNotIn ty td σ H Q := k
theorem t_dix (k : Tr L fun H => td σ H fun x H1 => ty σ H1 fun y H2 => dAt x y H2 Q) : Tr L fun H => tDGet td ty σ H Q := k
theorem t_dg1 (k : Tr L fun H => td σ H fun x H1 => ∃ a, x = .ref a ∧ IsD H1 a ∧ ty σ H1 fun y H2 => dGet1 a y H2 Q) : Tr L fun H => tDGet1 td ty σ H Q := k
theorem t_dput (k : Tr L fun H => tv σ H fun v H1 => td σ H1 fun x H2 => ty σ H2 fun y H3 => dPut x y v H3 fun H4 => D.nx σ H4) : Tr L fun H => sDPut td ty tv D σ H := k
theorem t_isDk {G : Addr → Hp → Prop} (hp : Pick a (.dK kvs) L R) (k : Tr L (G a)) : Tr L fun H => ∃ a', V.ref a = .ref a' ∧ IsD H a' ∧ G a' H := fun H l => ⟨a, rfl, .inl ⟨_, .inl (l.get hp)⟩, k H l⟩
theorem t_dinK (hp : Pick a (.dK kvs) L R) (k : Tr L fun H => Q (.bl (dv kvs i).isSome) H) : Tr L fun H => dIn (.ref a) (.int i) H Q := fun H l => ⟨a, _, rfl, DGet.k (k := Sum.inl i) (l.get hp), k H l⟩
theorem t_dninK (hp : Pick a (.dK kvs) L R) (k : Tr L fun H => Q (.bl (!(dv kvs i).isSome)) H) : Tr L fun H => dNotIn (.ref a) (.int i) H Q := fun H l => ⟨a, _, rfl, DGet.k (k := Sum.inl i) (l.get hp), k H l⟩
theorem t_datK (hp : Pick a (.dK kvs) L R) (hv : dv kvs i = some v) (k : Tr L fun H => Q v H) : Tr L fun H => dAt (.ref a) (.int i) H Q := fun H l => ⟨a, v, rfl, by rw [← hv]; exact DGet.k (k := Sum.inl i) (l.get hp), k H l⟩
theorem t_dgetK (hp : Pick a (.dK kvs) L R) (k : Tr L fun H => Q ((dv kvs i).getD .non) H) : Tr L fun H => dGet1 a (.int i) H Q := fun H l => ⟨_, DGet.k (k := Sum.inl i) (l.get hp), k H l⟩
theorem t_dputK (hp : Pick a (.dK kvs) L R) (hz : kvs.length < sizeLine) (k : Tr ((a, .dK (putK kvs (Sum.inl i) v)) :: R) G) : Tr L fun H => dPut (.ref a) (.int i) v H G :=
  fun H l => ⟨a, _, rfl, DPut.k (k := Sum.inl i) (l.get hp) hz, k _ (l.pick hp).put⟩
/-- keys that are two ints -/
def dv2 (tvs : List (List Key × V)) (i j : Int) : Option V := valV tvs [Sum.inl i, Sum.inl j]
theorem t_dinT (hp : Pick a (.dT tvs) L R) (hq : (b, .tup [.int i, .int j]) ∈ L) (k : Tr L fun H => Q (.bl (dv2 tvs i j).isSome) H) : Tr L fun H => dIn (.ref a) (.ref b) H Q :=
  fun H l => ⟨a, _, rfl, DGet.t (k := [Sum.inl i, Sum.inl j]) (l.get hp) (l.has _ hq), k H l⟩
theorem t_dputT (hp : Pick a (.dT tvs) L R) (hq : (b, .tup [.int i, .int j]) ∈ R) (hz : tvs.length < sizeLine) (k : Tr ((a, .dT (putK tvs [Sum.inl i, Sum.inl j] v)) :: R) G) : Tr L fun H => dPut (.ref a) (.ref b) v H G :=
  fun H l => ⟨a, _, rfl, DPut.t (k := [Sum.inl i, Sum.inl j]) (l.get hp) ((l.pick hp).has _ (.tail _ hq)) hz, k _ (l.pick hp).put⟩
theorem t_dnewT (k : ∀ p, Tr ((p, .dT []) :: L) fun H => Q (.ref p) H) : Tr L fun H => tDNewT σ H Q := fun H l p hp => k p _ (l.new hp)
end
end Hz
namespace Hz
open PySem PySem.Spec PyProof.Rows L2 RZ
/-! ### dict comprehensions -/
section
variable {L M : Lg} {σ σ0 : SS} {K : PySem.W.Frag} {wi : TI} {g : TG} {tt : TT} {tk tv : TE} {vs : List Nat} {Q : VK}
/-- a pair is put into the new dict -/
def dcAdd (D : Addr) (N : Hp → Prop) (y z : V) (H : Hp) : Prop := ∃ kvs k, y = kV k ∧ H D = some (.dK kvs) ∧ kvs.length < sizeLine ∧ N (upd H D (.dK (putK kvs k z)))
def dcK (g : TG) (tt : TT) (tk tv : TE) (vs : List Nat) (σ : SS) (Q : VK) (J : It) (H1 : Hp) : Prop := ∀ D, H1 D = none → ∃ W : Nat → Nat → Hp → Prop, (∃ m, W 0 m (upd H1 D (.dK []))) ∧ ∀ i m H, W i m H →
  (J.stop i H ∧ Q (.ref D) H) ∨ (J.go i H ∧ ∃ Nx : Hp → Prop, (∀ H', Nx H' → ∃ m', m' < m ∧ W (i + 1) m' H') ∧ ∀ x H', J.yld i H x H' → g x (wipe σ vs) H' fun σ2 H2 => wipe σ2 vs = wipe σ vs ∧ tt σ2 H2 fun b H3 =>
    if b = true then tk σ2 H3 fun y H4 => tv σ2 H4 fun z H5 => dcAdd D Nx y z H5 else Nx H3)
theorem t_dc (k : Tr L fun H => wi σ H (dcK g tt tk tv vs σ Q)) : Tr L fun H => tDc wi g tt tk tv vs σ H Q := k
def dcNx (M : Lg) (I : Nat → List (Key × V) → Prop) (D : Addr) (i : Nat) (H : Hp) : Prop := ∃ kvs, I i kvs ∧ Led H ((D, .dK kvs) :: M)
theorem t_dcAdd {R : Lg} {I : Nat → List (Key × V) → Prop} {D : Addr} {i : Nat} {kvs : List (Key × V)} {k : Int} {v : V} (hp : Pick D (.dK kvs) L R) (hz : kvs.length < sizeLine) (hI : I i (putK kvs (Sum.inl k) v)) (hM : Sub R M) :
    Tr L fun H => dcAdd D (dcNx M I D i) (.int k) v H := fun H l => ⟨kvs, Sum.inl k, rfl, l.get hp, hz, _, hI, (l.pick hp).put.sub (.take .head hM)⟩
theorem t_dcK {J : It} {n : Nat} {val : Nat → V → Lg → Prop} {Src : Lg → Prop} (wk : Wk J n val Src) (hw : wipe σ vs = σ0) (M : Lg) (I : Nat → List (Key × V) → Prop) (hM : Sub L M) (h0 : I 0 []) (hsrc : ∀ x, Src (x :: M))
    (hs : ∀ D i kvs v L', i < n → I i kvs → val i v L' → Tr (L' ++ (D, .dK kvs) :: M) fun H => g v σ0 H fun σ2 H2 => wipe σ2 vs = σ0 ∧ tt σ2 H2 fun b H3 =>
      if b = true then tk σ2 H3 fun y H4 => tv σ2 H4 fun z H5 => dcAdd D (dcNx M I D (i + 1)) y z H5 else dcNx M I D (i + 1) H3)
    (hd : ∀ D kvs, I n kvs → Tr ((D, .dK kvs) :: M) fun H => Q (.ref D) H) : Tr L fun H => dcK g tt tk tv vs σ Q J H := by
  intro H l D hD
  refine ⟨fun i m H' => m = n - i ∧ i ≤ n ∧ dcNx M I D i H', ⟨n, by simp, Nat.zero_le _, [], h0, (l.new hD).sub (.take .head hM)⟩, ?_⟩
  rintro i m H' ⟨rfl, hi, kvs, iy, ly⟩
  by_cases h : i < n
  · refine .inr ⟨wk.go _ _ i (hsrc _) ly h, dcNx M I D (i + 1), fun H2 p => ⟨n - (i + 1), by omega, rfl, h, p⟩, fun v H2 yl => ?_⟩
    obtain ⟨L', hv, l'⟩ := wk.yld _ _ i v H2 (hsrc _) ly h yl
    rw [hw]
    exact hs D i kvs v L' h iy hv H2 l'
  · obtain rfl : i = n := by omega
    exact .inl ⟨wk.stop _ _ (hsrc _) ly, hd D kvs iy H' ly⟩
end
end Hz
namespace Hz
open PySem PySem.Spec PyProof.Rows L2 RZ
section
variable {X : Cx}
/-- name = {..} on one line, the name a local -/
theorem ps_setDc {i : Nat} {y : Str} {py : Pos} {kx vx tg iter : Expr} {ifs : List Expr} {scope : Scope} {own : List (Str × Nat)} {pos spos : Pos} {wi : TI} {g : TG} {tt : TT} {tk tv : TE} (hc : X.calm = true) (hN : X.N.Nodup) (hy : X.N[i]? = some y) (hyl : X.env.scope.names.lookup y = some .local)
    (hsw : swapsWith (.DictComp kx vx [⟨tg, iter, ifs, 0⟩] scope pos) (some (.Name y py)) spos.line X.env = pure true) (hi : PI X tg iter wi) (ok : BlkOk X.N X.env.scope scope own)
    (hg : ∀ (s : Shared) (H : Hp) (C : Addr) (cl : List (Str × Addr)) (fp : List Addr), PG (X.blk s H scope (compEnvC scope cl C X.env) fp) tg g) (ht : ∀ (s : Shared) (H : Hp) (C : Addr) (cl : List (Str × Addr)) (fp : List Addr), PTs (X.blk s H scope (compEnvC scope cl C X.env) fp) ifs tt)
    (hk : ∀ (s : Shared) (H : Hp) (C : Addr) (cl : List (Str × Addr)) (fp : List Addr), PE (X.blk s H scope (compEnvC scope cl C X.env) fp) kx tk)
    (he : ∀ (s : Shared) (H : Hp) (C : Addr) (cl : List (Str × Addr)) (fp : List Addr), PE (X.blk s H scope (compEnvC scope cl C X.env) fp) vx tv) (hs : ∀ x, foldedSetIterable iter X.env x = pure x := by intro _; rfl) :
    PS X (.Assign [.Name y py] (.DictComp kx vx [⟨tg, iter, ifs, 0⟩] scope pos) spos) (tAsg (tDc wi g tt tk tv (own.map (·.2))) (gName i)) := by
  refine ⟨fun pins s σ H D I h => ?_⟩
  rw [exec_Assign_Name_used _ _ _ _ hsw]
  refine wpAny_bind (wpAny_standAt (wpAny_bind ?_))
  show wpAny _ X.A (do let _ ← comprehension (.DictComp kx vx [⟨tg, iter, ifs, 0⟩] scope pos) scope X.env (firstIterPos [⟨tg, iter, ifs, 0⟩] pos) newDict false (eval iter X.env) (some (assign (.Name y py) X.env))) _ _ s
  have h : tDc wi g tt tk tv (own.map (·.2)) σ H (fun x H1 => gName i x σ H1 D.nx) := h
  refine wpAny_bind (thn (dc_core (Qf := fun _ s' => SP X pins D .next s') hc hN I hi ok hg ht hk he hs h fun L C s' m H' I' q hn f => ?_) fun _ s' hq => wpAny_pure (wpAny_pure hq))
  show wpAny _ _ (assign (.Name y py) X.env (.ref L)) _ _ _
  refine wpAny_assign_Name (store_ok2 (v := V.ref L) I' hN hy (.inl hyl) rfl (fun s2 I2 ⟨a, sb, ha⟩ => ?_) (.inr hyl))
  obtain ⟨f0, f1, f2, f3, f4, f5⟩ := f
  have haC : C ≠ a := by
    rcases ha with z | z
    · rw [z]; exact f1
    · exact fun e => f4 y a z e.symm
  refine ⟨m, hn.sameBut sb haC, fun h3 sb3 => ?_⟩
  exact ⟨_, H', I2.turned (t' := s2.toks) (fun b o hb e => (sb3.2 b hb).trans e) f0 f1 f3 f4 f5, q⟩
theorem sw_trueD {kx vx : Expr} {gs : List Comprehension} {scope : Scope} {pos py : Pos} {y : Str} {l : Nat} {env : Env} (hk : env.scope.kind = .function) (hy : env.scope.names.lookup y = some .local) (hl : (py.line == pos.line) = true)
    (ha : (scope.names.any fun (n, k) => n == y && (k == .local || k == .cell)) = false) : swapsWith (.DictComp kx vx gs scope pos) (some (.Name y py)) l env = pure true := by
  have ky : env.kindOf y = some .local := hy
  have hb : env.blockKind = .function := by unfold Env.blockKind; rw [hk]; rfl
  unfold swapsWith
  simp only [hb, ky, ha, Expr.pos, hl]
  rfl
end
end Hz

/-! Hz, part X: defs that raise, classes of errors without an own __init__, try .. except. -/
namespace Hz
open PySem PySem.Spec PyProof.Rows L2 RZ
/-- a class of errors at C, without an own __init__ -/
structure ExcC (K : PySem.W.Frag) (mg : Str → Option Value) (x : Str) (C : Addr) : Prop where
  g : mg x = some (.ref C)
  k : PySem.W.keepIn K (.ref C) = true
  e : PySem.W.excIn K C [.type "ValueError", .type "Exception", .type "BaseException", .type "object"] "ValueError.__new__" = true
  r : PySem.W.subIn K (.ref C) (.type "BaseException") = some true
  t : PySem.W.typeIn K (.ref C) = some (.type "type")
  te : PySem.W.exmOne K (.ref C) (.ref C) = some true
theorem exm_own {K : PySem.W.Frag} {S C : Addr} {b : Bool} (h1 : PySem.W.subIn K (.ref C) (.type "BaseException") = some true) (h2 : PySem.W.isClsIn K C = true) (h3 : PySem.W.typeIn K (.ref C) = some (.type "type")) (h4 : PySem.W.subIn K (.ref S) (.ref C) = some b) :
    PySem.W.exmOne K (.ref S) (.ref C) = some b := by
  have e1 : (PySem.W.subIn K (.ref C) (.type "BaseException") == some true) = true := by rw [h1] <;> rfl
  have e2 : ((PySem.W.clsIn K C).isSome && PySem.W.typeIn K (.ref C) == some (.type "type")) = true := by
    have h2' : (PySem.W.clsIn K C).isSome = true := h2
    rw [h2', h3] <;> rfl
  show (if (PySem.W.subIn K (.ref C) (.type "BaseException") == some true) = true then (if ((PySem.W.clsIn K C).isSome && PySem.W.typeIn K (.ref C) == some (.type "type")) = true then PySem.W.subIn K (.ref S) (.ref C) else none) else none) = some b
  rw [if_pos e1, if_pos e2]
  exact h4
section
variable {K : PySem.W.Frag} {mg : Str → Option Value} {h : Heap}
theorem exc_mk (X : K.In h) (G : h.Ns mainGlobals mg) {x : Str} {C : Addr} (a : PySem.W.nsIn K mainGlobals x = some (some (.ref C))) (k : PySem.W.keepIn K (.ref C) = true)
    (e : PySem.W.excIn K C [.type "ValueError", .type "Exception", .type "BaseException", .type "object"] "ValueError.__new__" = true) (r : PySem.W.subIn K (.ref C) (.type "BaseException") = some true)
    (t : PySem.W.typeIn K (.ref C) = some (.type "type")) (i : PySem.W.isClsIn K C = true) (s : PySem.W.subIn K (.ref C) (.ref C) = some true) : ∃ C, ExcC K mg x C :=
  ⟨C, PySem.W.mg_of X G a, k, e, r, t, exm_own r i t s⟩
end
/-- nothing is let out: the call is one that does not raise -/
theorem pasX0 {X : Cx} (σ : L2.St) : PassesAt (L2N.CX X.prog X.w) X σ (fun _ _ _ => False) := fun _ _ _ _ _ _ h => by
  obtain ⟨_, _, _, _, _, _, _, _, _, _, _, _, z⟩ := h
  exact z.elim
/-- raise C('..') -/
theorem pe_mk {X : Cx} {x m : Str} {C : Addr} {j : Nat} {p p2 pos : Pos} (T : ExcC X.K X.mg x C) (hg : Gl X x := by rfl) (hdb : (x == ("__debug__" : Str)) = false := by decide) : L2N.PMk X (.Call (.Name x p) [.Constant (.str m) j p2] [] pos) (fun _ H Q => Q (.ref C) none H) :=
  L2N.pmk_own PySem.F.excBase_ValueError T.e T.g T.k (raises_own T.r T.t) hg hdb
section
variable {K : PySem.W.Frag} {L : Lg} {σ : SS} {D : Ends} {c cls : Value} {d : Option Addr} {ts : Addr → Value → Option Addr → TS} {Wout : WX}
/-- the clause's own class -/
theorem t_only (b : PySem.W.exmOne K cls c = some true) (k : ∀ a, Tr L fun H => ts a cls d D σ H) : Tr L fun H => wOnly K c ts Wout D cls d σ H :=
  fun H l => ⟨true, b, fun _ a _ => k a H l, fun e => nomatch e⟩
end
end Hz

/-! Hz, part Y: errors as values: except .. as e, what e is an instance of, its fields, classes with an own __init__. -/
namespace Hz
open PySem PySem.Spec PyProof.Rows L2 RZ
/-! ### a caught error as a thing of the ledger -/
/-- at a: an error of the class at C, its dict d -/
def exF (a C : Addr) (d : Option Addr) : HO := .ext fun h => ∃ oe vs, h.get? a = some oe ∧ oe.cls = .ref C ∧ oe.dict = d ∧ oe.data = .fields vs ∧ vs[2]? = some .none
section
variable {P : Program} {w : World} {H : Hp} {h : Heap} {a C : Addr} {d : Option Addr}
theorem exF_ok {oe : Obj} {vs : Array Value} (e : h.get? a = some oe) (c : oe.cls = .ref C) (dd : oe.dict = d) (f : oe.data = .fields vs) (n2 : vs[2]? = some .none) : ObjOk P w H h a (exF a C d) :=
  ⟨⟨oe, vs, e, c, dd, f, n2⟩, ⟨_, e⟩, fun h1 h2 z k => by
    obtain ⟨oe, vs, e, c, dd, f, n2⟩ := z
    exact ⟨oe, vs, k _ e, c, dd, f, n2⟩⟩
theorem exF_at (hok : HOk P w H h) (e : H a = some (exF a C d)) : ∃ oe vs, h.get? a = some oe ∧ oe.cls = .ref C ∧ oe.dict = d ∧ oe.data = .fields vs ∧ vs[2]? = some .none := by
  have x : ObjOk P w H h a (.ext fun h => ∃ oe vs, h.get? a = some oe ∧ oe.cls = .ref C ∧ oe.dict = d ∧ oe.data = .fields vs ∧ vs[2]? = some .none) := hok a _ e
  exact x.1
end
section
variable {X : Cx} {pins : List (Addr × Obj)} {σ : L2.St} {H : Hp} {sI s4 : Shared} {a C : Addr} {d : Option Addr}
/-- a new error is taken into the abstract heap -/
theorem inv_give {oe : Obj} {vs : Array Value} (J : Inv X pins σ H sI) (J4 : Inv X pins σ H s4) (hn : sI.heap.get? a = none) (he : s4.heap.get? a = some oe) (hc : oe.cls = .ref C) (hdd : oe.dict = d)
    (hd : oe.data = .fields vs) (n2 : vs[2]? = some .none) (na : H a = none) : Inv (X.suite a (X.pn ++ pins)) [] σ (upd H a (exF a C d)) s4 := by
  have ne : ∀ b u, sI.heap.get? b = some u → b ≠ a := fun b u e z => by rw [z, hn] at e; cases e
  have nn : ∀ b o, H b = some o → b ≠ a := fun b o e z => by rw [z, na] at e; cases e
  have nL : X.env.locals ≠ a := by
    obtain ⟨m, ⟨o, _, _, ho, _⟩, _⟩ := J.loc
    exact ne _ _ ho
  refine ⟨J.ok.suite _ _, J4.os, J4.bare, ⟨J4.base.keep, J4.base.slot, fun b o e n hx => ?_, J4.base.there, fun b xs e => ?_, fun b o u e => ?_, fun b ps e => ?_⟩, J4.loc, J4.cell, ?_, fun x c e => ?_, fun p hp => ?_, fun b o e => ?_, J4.len⟩
  · obtain ⟨o', e'⟩ := J.base.there b o e hx
    rw [upd_ne (ne _ _ e')]
    exact J4.base.free b o e n hx
  · have z := J4.base.tups b xs e
    rw [upd_ne (nn _ _ z)]
    exact z
  · have z := J4.base.frzs b o u e
    rw [upd_ne (nn _ _ z)]
    exact z
  · obtain ⟨more, z⟩ := J4.base.tbls b ps e
    exact ⟨more, by rw [upd_ne (nn _ _ z)]; exact z⟩
  · show upd H a (exF a C d) X.env.locals = none
    rw [upd_ne nL]
    exact J4.free
  · obtain ⟨v, o, z, _⟩ := J.cell x c e
    rw [upd_ne (ne _ _ z)]
    exact J4.freeC x c e
  · have hp' : p ∈ X.pn ++ pins := by rw [List.append_nil] at hp; exact hp
    obtain ⟨e, n, nl, nf, nc⟩ := J4.pin p hp'
    exact ⟨e, by rw [upd_ne (ne _ _ (J.pin p hp').1)]; exact n, nl, nf, nc⟩
  · by_cases hb : b = a
    · subst hb
      rw [upd_same] at e
      cases e
      exact exF_ok he hc hdd hd n2
    · rw [upd_ne hb] at e
      exact (J4.hok b o e).stay (fun _ _ _ q => q) (fun c q => by rw [upd_ne (nn _ _ q)]; exact q) fun c xs q => by rw [upd_ne (nn _ _ q)]; exact q
theorem inv_unsuite {pn' : List (Addr × Obj)} (I : Inv (X.suite a (X.pn ++ pins)) pn' σ H s4) (ok : X.Ok) : Inv X pins σ H s4 :=
  ⟨ok, I.os, I.bare, I.base, I.loc, I.cell, I.free, I.freeC, fun p hp => I.pin p (List.mem_append_left _ hp), I.hok, I.len⟩
end
/-- where the suite's ways go: the clause's name is gone -/
def Ends.gone (D : Ends) (i : Nat) : Ends := { nx := fun σ H => D.nx (σ.set i none) H, rt := D.rt, bk := fun σ H => D.bk (σ.set i none) H, ct := fun σ H => D.ct (σ.set i none) H }
/-- what 'except c as n' (n in slot i) wishes of an error of the body: the clause takes it -/
def wCat (K : PySem.W.Frag) (c : Value) (i : Nat) (ts : Addr → TS) (D : Ends) : WX := fun cls d σ H =>
  ∃ C, cls = .ref C ∧ PySem.W.exmOne K cls c = some true ∧ ∀ a, H a = none → ts a (Ends.gone D i) (σ.set i (some (.ref a))) (upd H a (exF a C d))
section
variable {X : Cx} {x n : Str} {c : Value} {i : Nat} {body suite : List Stmt} {b₀ : Stmt} {np pos pos' : Pos} {tb : WX → TS} {ts : Addr → TS}
theorem ps_try_cat (hs : X.stack = X.env :: X.outer) (hf : X.env.frame = some X.env.locals) (hN : X.N.Nodup) (hi : X.N[i]? = some n) (hln : X.env.kindOf n = some .local) (hc : Names X x c)
    (hb : ∀ (W : WX) (pn : List (Addr × Obj)) (xe : Value → Shared → Prop), L2N.Takes (X.tr pn xe) W → PassesOwn (model X.prog X.w) X.A X.env xe → PSs (X.tr pn xe) body (tb W))
    (hsu : ∀ (a : Addr) (pn : List (Addr × Obj)), PSs (X.suite a pn) (b₀ :: suite) (ts a)) :
    PS X (.Try body [.ExceptHandler (some (.Name x np)) (some n) (b₀ :: suite) pos'] [] [] pos) (fun D σ H => tb (wCat X.K c i ts D) D σ H) := by
  refine ⟨fun pins s σ H D I h => ?_⟩
  have ok := I.ok
  have hfr : X.A.frames = some (X.env :: X.outer) := by rw [ok.frames, hs]
  have hloc : Loc X.env.scope n := .inl hln
  refine wpAny_Try_except (wpAny_mono ((hb (wCat X.K c i ts D) (X.pn ++ pins) (fun e s1 => wpAny (model X.prog X.w) X.A (noteFrame e X.env) (fun _ s2 => wpAny (model X.prog X.w) X.A (setFlight e none) (fun _ s3 =>
    wpAny (model X.prog X.w) X.A (handleBy e X.env [.ExceptHandler (some (.Name x np)) (some n) (b₀ :: suite) pos']) (SP X pins D) X.xe s3) X.xe s2) X.xe s1) (fun u s' xx => ?_) PassesOwn.looking).run [] s σ H D (I.toTry _) h)
      (fun f s1 hsp => ?_) fun _ _ z => z)
  · obtain ⟨a, B, sI, pins', σ', H', cls, d, rfl, J', nb, up, sky, na, os, ag, C, rfl, hm, hts⟩ := xx
    have J : Inv X pins σ' H' sI := J'.ofTry ok
    have sky' : Sky B (X.env :: X.outer) a (L2N.Zn (.ref C) d) X.env.locals s'.heap := by rw [← hs]; exact sky
    show wpAny _ X.A (noteFrame (.ref a) X.env) _ _ _
    refine L2N.Sky.land L2N.Zn.steady hfr hf sky' fun h3 fl3 up3 => ?_
    have J3 : Inv X pins σ' H' { s' with heap := h3 } := J.landed nb fl3.1 (up.trans up3) os ag
    obtain ⟨oe3, vs3, he3, hz3, hd3⟩ := fl3.there
    have n3 := hz3.2.2 _ hd3
    have nfr : a ∉ frs (X.env :: X.outer) := fun hm => by
      obtain ⟨_, o', e', hnf⟩ := fl3.2.2.1.mem hm
      rw [he3] at e'
      cases e'
      exact hnf _ hd3
    have hn : sI.heap.get? a = none := by
      cases e : sI.heap.get? a with
      | none => rfl
      | some o =>
        have z := nb a o e (by rw [hs]; exact nfr)
        rw [fl3.2.1] at z
        cases z
    have S3 := inv_give J J3 hn he3 hz3.1 hz3.2.1 hd3 n3 na
    refine wpAny_handleBy_cons (codeAny_handlers_test ?_) (by intro q; cases q)
    have LT : PySem.W.Looks (model X.prog X.w) h3 (typeOf (.ref a)) (.ref C) := fun A Q E s k q => wpAny_typeOf_ref (k _ _ he3) (by rw [hz3.1]; exact q)
    have LM := PySem.W.exm_one (M := model X.prog X.w) J3.kIn LT hm
    have test : ∀ {Q : Value → Shared → Prop} {E : Value → Shared → Prop}, Q c { s' with heap := h3 } → wpAny (model X.prog X.w) (X.A.mark (some (.ref a))) (eval (.Name x np) X.env) Q E { s' with heap := h3 } := fun {Q E} q => by
      obtain ⟨hg, hdbg, hm | ⟨hm, hv, hnn⟩⟩ := hc
      · exact ld_glob (X := X.suite a (X.pn ++ pins)) S3 hg hm q hdbg
      · exact ld_blt (X := X.suite a (X.pn ++ pins)) S3 hg hm hv q hnn hdbg
    refine test (LM.here (codeAny_handlers_suite_as (HandSPX.lands_againZ fl3 fun h4 fl4 up4 => ?_)))
    have J4 : Inv X pins σ' H' { s' with heap := h4 } := J.landed nb fl4.1 ((up.trans up3).trans up4) os ag
    obtain ⟨oe4, vs4, he4, hz4, hd4⟩ := fl4.there
    refine store_ok (X := X.suite a (X.pn ++ pins)) (v := .ref a) (inv_give J J4 hn he4 hz4.1 hz4.2.1 hd4 (hz4.2.2 _ hd4) na) hN hi hloc rfl (fun s5 S5 => ?_) (.inr hln)
    refine wpAny_mono ((hsu a (X.pn ++ pins)).run [] s5 _ _ _ S5 (hts a na)) (fun f s6 hsp => ?_) fun _ _ z => False.elim z
    have end_ : ∀ {σ6 : L2.St} {H6 : Hp} {Q : Shared → Prop}, Inv (X.suite a (X.pn ++ pins)) [] σ6 H6 s6 → (∀ s7, Inv X pins (σ6.set i none) H6 s7 → Q s7) →
        wpAny (model X.prog X.w) X.A (do bindName X.env n .none; unbindBehindTheSuite X.env n pos') (fun _ s7 => Q s7) X.xe s6 := fun {σ6 H6 Q} S6 hq => gone_ok (inv_unsuite S6 ok) hN hi hln hq
    cases f with
    | next =>
      obtain ⟨σ6, H6, S6, q6⟩ := hsp
      exact end_ S6 fun s7 J7 => ⟨_, _, J7, q6⟩
    | brk =>
      obtain ⟨σ6, H6, S6, q6⟩ := hsp
      exact end_ S6 fun s7 J7 => ⟨_, _, J7, q6⟩
    | cont =>
      obtain ⟨σ6, H6, S6, q6⟩ := hsp
      exact end_ S6 fun s7 J7 => ⟨_, _, J7, q6⟩
    | ret u =>
      obtain ⟨v6, σ6, H6, S6, r6, q6⟩ := hsp
      exact end_ S6 fun s7 J7 => ⟨_, _, _, J7, r6, q6⟩
  · cases f with
    | next =>
      obtain ⟨σ', H', J', q⟩ := hsp
      exact wpAny_execs_nil ⟨σ', H', J'.ofTry ok, q⟩
    | brk =>
      obtain ⟨σ', H', J', q⟩ := hsp
      exact ⟨σ', H', J'.ofTry ok, q⟩
    | cont =>
      obtain ⟨σ', H', J', q⟩ := hsp
      exact ⟨σ', H', J'.ofTry ok, q⟩
    | ret u =>
      obtain ⟨v, σ', H', J', r, q⟩ := hsp
      exact ⟨v, σ', H', J'.ofTry ok, r, q⟩
end
section
variable {K : PySem.W.Frag} {L : Lg} {σ : L2.St} {D : Ends} {c : Value} {C : Addr} {d : Option Addr} {i : Nat} {ts : Addr → TS}
/-- the clause takes it -/
theorem t_catch (b : PySem.W.exmOne K (.ref C) c = some true) (k : ∀ a, Tr ((a, exF a C d) :: L) fun H => ts a (Ends.gone D i) (σ.set i (some (.ref a))) H) : Tr L fun H => wCat K c i ts D (.ref C) d σ H :=
  fun H l => ⟨C, rfl, b, fun a na => k a _ (l.new na)⟩
end
/-! ### what an error is an instance of -/
/-- what the text says of the class at C, so that isinstance asks its instances rightly -/
structure Sbj (K : PySem.W.Frag) (C : Addr) : Prop where
  cl : PySem.W.isClsIn K C = true
  ga : PySem.W.findIn K (.ref C) "__getattribute__" = some (some (.builtin "BaseException.__getattribute__"))
  gg : PySem.W.findIn K (.ref C) "__getattr__" = some none
  su : PySem.W.subIn K (.ref C) (.type "BaseException") = some true
  ha : PySem.W.findIn K (.ref C) "__class__" = some (some (.builtin "object.__class__"))
  hn : PySem.W.specialIn K (.builtin "object.__class__") "__get__" = some (some (.builtin "getset_descriptor.__get__"))
  tk : PySem.W.takesIn K (.builtin "object.__class__") = some true
  hm : PySem.W.mroIn K C (.type "object") = some true
  hd : PySem.W.hasDictIn K C = true
/-- the error at a is tracked -/
def ErH (H : Hp) (a C : Addr) (d : Option Addr) : Prop := H a = some (exF a C d) ∧ ∀ dx, d = some dx → ∃ fs, H dx = some (.xd fs)
theorem er_inst {X : Cx} {pins : List (Addr × Obj)} {σ : L2.St} {H : Hp} {s : Shared} {a C : Addr} {d : Option Addr} (I : Inv X pins σ H s) (e : ErH H a C d) : ∃ ox od, PySem.W.InstAt s.heap a ox C od := by
  obtain ⟨oe, vs, h1, h2, h3, h4, _⟩ := exF_at I.hok e.1
  cases d with
  | none => exact ⟨oe, none, ⟨h1, h2, by unfold PySem.W.notCls; rw [h4] <;> rfl, by rw [h3]; exact True.intro⟩⟩
  | some dx =>
    obtain ⟨fs, q⟩ := e.2 dx rfl
    obtain ⟨mA, hns, _⟩ := (show ObjOk X.prog X.w H s.heap dx (.xd fs) from I.hok dx _ q)
    obtain ⟨od, ho, _⟩ := lookIn_ns hns
    exact ⟨oe, some od, ⟨h1, h2, by unfold PySem.W.notCls; rw [h4] <;> rfl, by rw [h3]; exact ho⟩⟩
/-- isinstance(e, c) -/
def rIsE (K : PySem.W.Frag) : List V → Hp → VK → Prop := fun xs H Q => ∃ (a C : Addr) (d : Option Addr) (c : V) (u : Value) (b : Bool), xs = [.ref a, c] ∧ ErH H a C d ∧ Sbj K C ∧ ClsV c u ∧ PySem.W.kitOne K (.ref C) u = some b ∧ Q (.bl b) H
/-- isinstance(e, (c, ..)) -/
def rIsET (K : PySem.W.Frag) : List V → Hp → VK → Prop := fun xs H Q => ∃ (a C tp : Addr) (d : Option Addr) (cs : List V) (us : List Value) (b : Bool), xs = [.ref a, .ref tp] ∧ ErH H a C d ∧ Sbj K C ∧ H tp = some (.tup cs) ∧ Paired ClsV cs us ∧ PySem.W.kitAny K (.ref C) us = some b ∧ Q (.bl b) H
section
variable {X : Cx}
theorem c_isE : CallR X (.builtin "isinstance") (rIsE X.K) := by
  intro pins s σ H xs us Q I r h
  obtain ⟨a, C, d, c, u, b, rfl, eh, T, k, e, q⟩ := h
  obtain ⟨u1, u2, rfl, r1, r2⟩ := vals2 r
  have e2 := k.eq r2
  subst e2
  obtain rfl : u1 = Value.ref a := r1
  obtain ⟨ox, od, J⟩ := er_inst I eh
  exact PySem.W.kia_one (PySem.W.kitx_exc T.cl T.ga T.gg T.su T.ha T.hn T.tk T.hm) I.kIn J e (fun z => nomatch z) fun tk => ⟨.bl b, H, I.tok tk, rfl, q⟩
theorem c_isET : CallR X (.builtin "isinstance") (rIsET X.K) := by
  intro pins s σ H xs us Q I r h
  obtain ⟨a, C, tp, d, cs, ws, b, rfl, eh, T, hT, k, e, q⟩ := h
  obtain ⟨u1, u2, rfl, r1, r2⟩ := vals2 r
  cases (show u2 = Value.ref tp from r2)
  obtain rfl : u1 = Value.ref a := r1
  obtain ⟨ox, od, J⟩ := er_inst I eh
  obtain ⟨_, its, rv, o, h1, h2, n, h3⟩ := (show ObjOk X.prog X.w H s.heap tp (.tup cs) from I.hok tp _ hT)
  have e3 := ClsV.all k rv
  subst e3
  obtain ⟨oc, od', dt, sl⟩ := o
  simp only at h2 h3
  subst h2 h3
  exact PySem.W.kia_tup (PySem.W.kitx_exc T.cl T.ga T.gg T.su T.ha T.hn T.tk T.hm) I.kIn J h1 e (fun z => nomatch z) fun tk => ⟨.bl b, H, I.tok tk, rfl, q⟩
/-- e.f, a field of an error -/
def rExA (K : PySem.W.Frag) (f : Str) (x : V) (H : Hp) (Q : VK) : Prop := ∃ (a C dx : Addr) (fs : List (Str × V)) (v : V), x = .ref a ∧ H a = some (exF a C (some dx)) ∧ H dx = some (.xd fs) ∧ Sbj K C ∧
  PySem.W.findIn K (.ref C) f = some none ∧ fs.lookup f = some v ∧ Q v H
def tExA (K : PySem.W.Frag) (f : Str) (te : TE) : TE := fun σ H Q => te σ H fun x H1 => rExA K f x H1 Q
theorem pe_exA {e : Expr} {f : Str} {te : TE} {pos : Pos} (he : PE X e te) (hb : attributeBase e f X.env (eval e X.env) = eval e X.env := by rfl) : PE X (.Attribute e f pos) (tExA X.K f te) := by
  refine ⟨fun pins s σ H Q I h => attr_of hb (thn (he.run pins s σ H _ I h) fun u s1 hh => ?_)⟩
  obtain ⟨x, H1, I1, rx, a, C, dx, fs, v, ex, ea, ed, T, no, lk, q⟩ := hh
  subst ex
  obtain rfl : u = Value.ref a := rx
  obtain ⟨oe, vs, h1, h2, h3, h4, _⟩ := exF_at I1.hok ea
  obtain ⟨mA, hns, hr⟩ := (show ObjOk X.prog X.w H1 s1.heap dx (.xd fs) from I1.hok dx _ ed)
  obtain ⟨od, ho, hl⟩ := lookIn_ns hns
  obtain ⟨u, hu, ru⟩ := RelO.some_of (v := v) (o := mA f) (by rw [← lk]; exact hr f)
  have J : PySem.W.InstAt s1.heap a oe C (some od) := ⟨h1, h2, by unfold PySem.W.notCls; rw [h4] <;> rfl, by rw [h3]; exact ho⟩
  exact HandSPX.exc_get I1.kIn J T.ga T.gg T.su (PySem.W.findObj_own T.hd no rfl (by rw [hl, hu])) (handed_of ru) ⟨v, H1, I1.tok _, ru, q⟩
end
section
variable {K : PySem.W.Frag} {L R R' : Lg} {a C : Addr} {Q : VK} {b : Bool}
/-- the error at a, by the ledger -/
def Er (L : Lg) (a C : Addr) : Prop := ∃ d, (a, exF a C d) ∈ L ∧ ∀ dx, d = some dx → ∃ fs, (dx, HO.xd fs) ∈ L
theorem Er.mono {M : Lg} (h : Er L a C) (s : ∀ p ∈ L, p ∈ M) : Er M a C := by
  obtain ⟨d, m, k⟩ := h
  exact ⟨d, s _ m, fun dx e => by obtain ⟨fs, z⟩ := k dx e; exact ⟨fs, s _ z⟩⟩
theorem Er.one (h : (a, exF a C none) ∈ L) : Er L a C := ⟨none, h, fun _ e => nomatch e⟩
theorem Er.two {dx : Addr} {fs : List (Str × V)} (h : (a, exF a C (some dx)) ∈ L) (k : (dx, HO.xd fs) ∈ L) : Er L a C := ⟨some dx, h, fun _ e => ⟨fs, by cases e; exact k⟩⟩
theorem Er.get {H : Hp} (h : Er L a C) (l : Led H L) : ∃ d, ErH H a C d := by
  obtain ⟨d, m, k⟩ := h
  exact ⟨d, l.has _ m, fun dx e => by obtain ⟨fs, z⟩ := k dx e; exact ⟨fs, l.has _ z⟩⟩
theorem t_isE {D : Addr} (h : Er L a C) (T : Sbj K C) (e : PySem.W.kitOne K (.ref C) (.ref D) = some b) (k : Tr L fun H => Q (.bl b) H) : Tr L fun H => rIsE K [.ref a, .ref D] H Q := fun H l => by
  obtain ⟨d, eh⟩ := h.get l
  exact ⟨a, C, d, _, _, b, rfl, eh, T, .own D, e, k H l⟩
theorem t_isEB {n : String} (h : Er L a C) (T : Sbj K C) (e : PySem.W.kitOne K (.ref C) (.type n) = some b) (k : Tr L fun H => Q (.bl b) H) : Tr L fun H => rIsE K [.ref a, .ty n] H Q := fun H l => by
  obtain ⟨d, eh⟩ := h.get l
  exact ⟨a, C, d, _, _, b, rfl, eh, T, .ty n, e, k H l⟩
def clsOf : V → Value
  | .ref C => .ref C
  | .ty n => .type n
  | _ => .none
def isCl : V → Bool
  | .ref _ => true
  | .ty _ => true
  | _ => false
theorem cls_all : ∀ cs : List V, cs.all isCl = true → Paired ClsV cs (cs.map clsOf)
  | [], _ => .nil
  | c :: cs, h => by
    rw [List.all_cons, Bool.and_eq_true] at h
    refine .cons ?_ (cls_all cs h.2)
    cases c with
    | ref C => exact .own C
    | ty n => exact .ty n
    | non => cases h.1
    | bl b => cases h.1
    | int b => cases h.1
    | str b => cases h.1
    | _ => cases h.1
theorem t_isET {tp : Addr} {cs : List V} (h : Er L a C) (T : Sbj K C) (hp : Pick tp (.tup cs) L R) (hc : cs.all isCl = true) (e : PySem.W.kitAny K (.ref C) (cs.map clsOf) = some b) (k : Tr L fun H => Q (.bl b) H) : Tr L fun H => rIsET K [.ref a, .ref tp] H Q := fun H l => by
  obtain ⟨d, eh⟩ := h.get l
  exact ⟨a, C, tp, d, _, _, b, rfl, eh, T, l.get hp, cls_all cs hc, e, k H l⟩
/-- e.f -/
theorem t_exA {dx : Addr} {fs : List (Str × V)} {f : Str} {v : V} (hp : Pick a (exF a C (some dx)) L R) (hd : Pick dx (.xd fs) L R') (T : Sbj K C) (no : PySem.W.findIn K (.ref C) f = some none) (lk : fs.lookup f = some v)
    (k : Tr L fun H => Q v H) : Tr L fun H => rExA K f (.ref a) H Q := fun H l => ⟨a, C, dx, fs, v, rfl, l.get hp, l.get hd, T, no, lk, k H l⟩
theorem t_exA0 {σ : L2.St} {f : Str} {te : TE} (k : Tr L fun H => te σ H fun x H1 => rExA K f x H1 Q) : Tr L fun H => tExA K f te σ H Q := k
end
/-! ### str(i), repr(i) -/
def rStrI : List V → Hp → VK → Prop := fun xs H Q => ∃ i : Int, xs = [.int i] ∧ i.natAbs.log2 < 1920 ∧ Q (.str (toString i)) H
theorem c_strI {X : Cx} : CallR X (.type "str") rStrI := call_str_int
theorem str_ok {i : Int} (h0 : -1000000 ≤ i) (h1 : i ≤ 1000000) : i.natAbs < 2 ^ 1000 := by
  have z : (1000001 : Nat) < 2 ^ 1000 := by decide
  omega
theorem t_strI {L : Lg} {i : Int} {Q : VK} (h : i.natAbs < 2 ^ 1000) (k : Tr L fun H => Q (.str (toString i)) H) : Tr L fun H => rStrI [.int i] H Q := fun H l =>
  ⟨i, rfl, by
    by_cases z : i.natAbs = 0
    · rw [z]; decide
    · exact Nat.lt_trans ((Nat.log2_lt z).mpr h) (by decide), k H l⟩
def rReprI : List V → Hp → VK → Prop := fun xs H Q => ∃ i : Int, xs = [.int i] ∧ -999999999999 ≤ i ∧ i ≤ 999999999999 ∧ Q (.str (toString i)) H
theorem c_reprI {X : Cx} (gd : X.A.guards = some []) (hu : X.A.units + 64 < cLine) : CallR X (.builtin "repr") rReprI := fun pins s σ H xs us Q I r ⟨i, e, h1, h2, q⟩ =>
  call_repr gd hu pins s σ H xs us Q I r ⟨.int i, .int i, e, .int i, by
    have : (2 ^ 1920 : Nat) > 999999999999 := by decide
    simp only [PyData.showable, decide_eq_true_eq]
    by_cases z : i.natAbs = 0
    · rw [z]; decide
    · exact (Nat.log2_lt z).mpr (by omega), by simp only [PyData.depth]; decide, by have := PyData.shown_int_le2 h1 h2; rw [sizeLine_eq]; omega, by
    have e : (PyData.int i).shown = (toString i : Str) := by simp only [PyData.shown]
    rw [e]; exact q⟩
theorem t_reprInt {L : Lg} {i : Int} {Q : VK} (h1 : -999999999999 ≤ i) (h2 : i ≤ 999999999999) (k : Tr L fun H => Q (.str (toString i)) H) : Tr L fun H => rReprI [.int i] H Q := fun H l => ⟨i, rfl, h1, h2, k H l⟩
theorem strI_len {i : Int} (h1 : -999999999999 ≤ i) (h2 : i ≤ 999999999999) : (toString i : Str).length ≤ 13 := by
  have e := PyData.shown_int_le2 h1 h2
  simpa only [PyData.shown] using e
theorem strOk_of (s : String) : PyData.strOk (Str.ofString s) = true := by
  unfold PyData.strOk
  rw [Str.ofString_eq_toList]
  simp only [List.all_toArray, List.all_map, List.all_eq_true, Function.comp_apply, decide_eq_true_eq]
  intro c _
  have := c.valid
  rcases this with h | h
  · exact Nat.lt_trans h (by decide)
  · exact h.2
theorem strOk_add {x y : Str} (a : PyData.strOk x = true) (b : PyData.strOk y = true) : PyData.strOk (x ++ y) = true := by
  unfold PyData.strOk at a b ⊢
  show ((x.cps ++ y.cps).all _) = true
  rw [Array.all_append, a, b]; rfl
def rAddS (x y : V) (H : Hp) (Q : VK) : Prop := ∃ i j, x = .str i ∧ y = .str j ∧ i.length + j.length ≤ sizeLine ∧ Q (.str (i ++ j)) H
theorem op_addS {X : Cx} : OpR X (binaryOp .Add) rAddS := op_add_str
theorem t_addS {L : Lg} {x y : Str} {Q : VK} (h : x.length + y.length ≤ 10000) (k : Tr L fun H => Q (.str (x ++ y)) H) : Tr L fun H => rAddS (.str x) (.str y) H Q :=
  fun H l => ⟨x, y, rfl, rfl, by rw [sizeLine_eq]; omega, k H l⟩
theorem t_addStr {L : Lg} {x y : Str} {G : V → Hp → Prop} (h : x.length + y.length ≤ 10000) (k : Tr L fun H => G (.str (x ++ y)) H) : Tr L fun H => ∃ i j, V.str x = V.str i ∧ V.str y = V.str j ∧ i.length + j.length ≤ sizeLine ∧ G (.str (i ++ j)) H :=
  fun H l => ⟨x, y, rfl, rfl, by rw [sizeLine_eq]; omega, k H l⟩
theorem t_gone {L : Lg} {D : Ends} {i : Nat} {σ τ : L2.St} (w : σ.set i none = τ) (k : Tr L fun H => D.nx τ H) : Tr L fun H => (Ends.gone D i).nx σ H := by subst w; exact k
theorem t_goneR {L : Lg} {D : Ends} {i : Nat} {v : V} (k : Tr L fun H => D.rt v H) : Tr L fun H => (Ends.gone D i).rt v H := k
/-! ### count of truth values -/
def eqb (k : Bool) (v : Value) : Bool := match v with
  | .bool b => b == k
  | _ => false
theorem bools_gives {k : Bool} : ∀ {us : List Value} {bs : List Bool}, Vals (bs.map V.bl) us → (∀ y ∈ us, ∀ A s, SeqAt.EqAt A s y (.bool k) (eqb k y)) ∧ us.countP (eqb k) = bs.count k
  | [], [], _ => ⟨fun y hy => by (cases hy), rfl⟩
  | u :: us, b :: bs, h => by
    cases h with
    | cons r h =>
      obtain rfl : u = Value.bool b := r
      obtain ⟨h1, h2⟩ := bools_gives (k := k) h
      refine ⟨fun y hy => ?_, ?_⟩
      · rcases List.mem_cons.mp hy with e | e
        · rw [e]
          exact fun A s => SeqAt.EqAt.bool_bool b k
        · exact h1 y e
      · rw [List.countP_cons, h2, List.count_cons]
        show _ + (if (b == k) = true then 1 else 0) = _
        rfl
  | [], _ :: _, h => nomatch h
  | _ :: _, [], h => nomatch h
def rCntB (K : PySem.W.Frag) : V → List V → Hp → VK → Prop := fun x xs H Q => ∃ (p : Addr) (bs : List Bool) (k : Bool), x = .ref p ∧ xs = [.bl k] ∧ SqL K H p (bs.map V.bl) ∧ Q (.int (bs.count k : Nat)) H
theorem mt_countB {X : Cx} : MtR X "list.count" (rCntB X.K) := by
  intro pins s σ H x xs v us Q I rx rxs h
  obtain ⟨p, bs, k, rfl, rfl, hs, q⟩ := h
  cases rx
  obtain ⟨u, rfl, ru⟩ := rxs.one
  obtain rfl : u = Value.bool k := ru
  obtain ⟨its, rv, ⟨⟨cls, dd, data, sl⟩, n, ho, hc, hdn, hd⟩, hlen⟩ := I.list hs
  simp only at hc hd
  subst hc hd
  obtain ⟨g1, g2⟩ := bools_gives (k := k) rv
  refine call_meets PySem.F.slot_list_count ⟨_, ho, rfl⟩ PySem.F.entry_list_count (PySem.F.args_list_count_2 _ _)
    (SeqAt.list_countAt p its.toArray n dd sl (.bool k) (eqb k)) ⟨ho, fun y hy => g1 y (by simpa using hy) _ _, ?_⟩
  refine ⟨.int (bs.count k : Nat), H, I.tok _, ⟨s.toks, ?_⟩, q⟩
  show Value.int ((its.toArray.toList.countP (eqb k) : Nat) : Int) s.toks = Value.int ((bs.count k : Nat) : Int) s.toks
  rw [show its.toArray.toList.countP (eqb k) = bs.count k from g2]
theorem t_countB {K : PySem.W.Frag} {L R : Lg} {p : Addr} {bs : List Bool} {k : Bool} {Q : VK} (hp : Pick p (.lst (bs.map V.bl)) L R) (q : Tr L fun H => Q (.int (bs.count k : Nat)) H) : Tr L fun H => rCntB K (.ref p) [.bl k] H Q :=
  fun H l => ⟨p, bs, k, rfl, rfl, sqL hp l, q H l⟩
theorem flat_bools : ∀ bs : List Bool, (bs.map V.bl).all flatV = true
  | [] => rfl
  | b :: bs => by rw [List.map_cons, List.all_cons, flat_bools bs]; rfl
theorem t_indexB {K : PySem.W.Frag} {L R : Lg} {p : Addr} {bs : List Bool} {k : Bool} {Q : VK} (j : Nat) (hp : Pick p (.lst (bs.map V.bl)) L R) (h1 : bs[j]? = some k) (h2 : ∀ m, m < j → bs[m]? ≠ some k) (q : Tr L fun H => Q (.int (j : Nat)) H) : Tr L fun H => rIndex K (.ref p) [.bl k] H Q :=
  fun H l => ⟨p, bs.map V.bl, .bl k, j, .bl k, rfl, rfl, sqL hp l, rfl, flat_bools bs, by rw [List.getElem?_map, h1]; rfl, by show (k == k) = true; cases k <;> rfl, fun m z' hm hz => by
    rw [List.getElem?_map] at hz
    cases e : bs[m]? with
    | none => rw [e] at hz; cases hz
    | some w =>
      rw [e] at hz
      cases hz
      show (w == k) = false
      have := h2 m hm
      rw [e] at this
      cases w <;> cases k <;> simp_all, q H l⟩
/-! ### a def out of a list of defs -/
/-- the def at f keeps the promise -/
def FO (P : Program) (w : World) (K : PySem.W.Frag) (mg : Str → Option Value) (base : Heap) (CX : CXT) (k : Nat) (f : Addr) (sp : Sp) : Prop := ∃ (fd : FuncData) (ps : List Str), PySem.W.keepIn K (.ref f) = true ∧ Binds K fd ps [] ∧ FnG P w K mg base CX k f fd ps sp
theorem ok_fv {P : Program} {w : World} {K : PySem.W.Frag} {mg : Str → Option Value} {base : Heap} {CX : CXT} {k : Nat} {x : Str} {ps : List Str} {sp : Sp} (h : Ok P w K mg base CX k x ps sp) : ∃ f, GV mg x (.ref f) ∧ ∀ j, k ≤ j → FO P w K mg base CX j f sp := by
  obtain ⟨f, fd, hm, hk, hb, F, _⟩ := h
  exact ⟨f, ⟨_, hm, rfl⟩, fun j hj => ⟨fd, ps, hk, hb, F.mono hj⟩⟩
def rFV (F : Addr → Sp → Prop) (E : XK) (ta : TA) (σ : L2.St) (v : V) (H : Hp) (Q : VK) : Prop := ∃ f sp, v = .ref f ∧ F f sp ∧ ta σ H fun vs H2 => sp vs H2 Q E
def tCallV (F : Addr → Sp → Prop) (E : L2.St → XK) (tf : TE) (ta : TA) : TE := fun σ H Q => tf σ H fun v H1 => rFV F (E σ) ta σ v H1 Q
theorem pe_callV {X : Cx} {CX : CXT} {k : Nat} {fe e : Expr} {es : List Expr} {tf : TE} {ta : TA} {E : L2.St → XK} {pos : Pos} (hr : RoomG k X.A) (hx : ∀ σ, PassesAt CX X σ (E σ)) (hf : PE X fe tf) (ha : PA X (e :: es) ta)
    (hc : eval (.Call fe (e :: es) [] pos) X.env = (do callWith pos (← eval fe X.env) [] (backTo pos (starEach (e :: es) X.env)) (backToKw pos (keywordEach [] X.env))) := by rfl)
    (he : starEach (e :: es) X.env = (false, eval e X.env) :: starEach es X.env := by rfl) (hpl : (backTo pos (starEach es X.env)).any (·.1) = false := by rfl) :
    PE X (.Call fe (e :: es) [] pos) (tCallV (FO X.prog X.w X.K X.mg X.base CX k) E tf ta) := by
  refine ⟨fun pins s σ H Q I h => ?_⟩
  rw [hc]
  refine wpAny_bind (thn (hf.run pins s σ H _ I h) fun u s1 ⟨v, H1, I1, rv, f, sp, ev, ⟨fd, ps, hk, hb, F⟩, q⟩ => ?_)
  subst ev
  obtain rfl : u = Value.ref f := rv
  exact PySem.W.callWith_K (h₀ := X.base) I1.ok.mod.kin hk (thn (ha.run pos pins s1 σ H1 _ I1 q) fun us s2 ⟨vs, H2, I2, r, q2⟩ => ⟨I2.kIn, runG F hr hb (hx σ) I2 r q2⟩) he hpl
section
variable {L : Lg} {σ : L2.St} {F : Addr → Sp → Prop} {E : L2.St → XK} {tf : TE} {ta : TA} {Q : VK}
theorem t_callV (k : Tr L fun H => tf σ H fun v H1 => rFV F (E σ) ta σ v H1 Q) : Tr L fun H => tCallV F E tf ta σ H Q := k
theorem t_FV {E : XK} {f : Addr} {sp : Sp} (h : F f sp) (k : Tr L fun H => ta σ H fun vs H2 => sp vs H2 Q E) : Tr L fun H => rFV F E ta σ (.ref f) H Q := fun H l => ⟨f, sp, rfl, h, k H l⟩
end
/-! ### classes with an own __init__ -/
/-- S.__init__(self, 'm'), S a class above ValueError that has none of its own -/
theorem pe_cinit {X : Cx} {e : Expr} {es : List Expr} {ta : TA} {p1 p2 pos : Pos} {pl : Sem Bool} {x : Str} {S : Addr} {mc : Value} (hg : Gl X x) (hm : X.mg x = some (.ref S)) (r : ClX.CRead X.K S mc)
    (vV : PySem.W.findCls X.K (.ref S) mc "__init__" = some (.val (.builtin "ValueError.__init__"))) (ha : PA X (e :: es) ta) (hdb : (x == ("__debug__" : Str)) = false := by decide)
    (hc : eval (.Call (.Attribute (.Name x p1) "__init__" p2) (e :: es) [] pos) X.env = (do
      let ov ← eval (.Name x p1) X.env
      standAt p2.atName
      let (f, first) ← holding [ov] (getMethod ov "__init__" pl)
      callWith pos f first (backTo pos (starEach (e :: es) X.env)) (backToKw pos (keywordEach [] X.env))) := by rfl)
    (he : starEach (e :: es) X.env = (false, eval e X.env) :: starEach es X.env := by rfl) (hpl : (backTo pos (starEach es X.env)).any (·.1) = false := by rfl) :
    PE X (.Call (.Attribute (.Name x p1) "__init__" p2) (e :: es) [] pos) (tVeI X.K ta) := by
  refine ⟨fun pins s σ H Q I h => PySem.W.methodCall_KW (ld_glob I hg hm ?_ hdb) hc⟩
  refine PySem.W.method_cls I.kIn r.ga (PySem.W.cls_value I.kIn r.rd vV rfl ?_)
  show wpAny _ _ (callWith pos (Value.builtin "ValueError.__init__") [] (backTo pos (starEach (e :: es) X.env)) []) _ _ _
  refine PyProof.Rows.callWith_method1 (thn (ha.run pos pins _ σ H _ (I.tok _) h) fun us s1 ⟨vs, H1, I1, r1, a, C, ws, ev, hl, T, ea, q⟩ => ?_) he hpl
  subst ev
  cases r1 with
  | @cons _ u0 _ ur ra rw' =>
    obtain rfl : u0 = Value.ref a := ra
    exact oinit_ok T I1 ea (by rw [← Paired.length rw', sizeLine_eq]; omega) fun s' J => ⟨.non, H1, J, rfl, q⟩
/-- the promise of such an __init__: the field f is set -/
def spI (C : Addr) (f : Str) : Sp := fun vs H Q _ => ∃ (a : Addr) (y : V), vs = [.ref a, y] ∧ H a = some (exo a C none) ∧ ∀ dx, H dx = none → dx ≠ a → Q .non (upd (upd H dx (exd dx [(f, y)])) a (exo a C (some dx)))
/-- C(e) -/
def rErr (C : Addr) (f : Str) (vs : List V) (H : Hp) (Q : XK) : Prop := ∃ y, vs = [y] ∧ ∀ d, H d = none → Q (.ref C) (some d) (upd H d (.xd [(f, y)]))
def tErr (C : Addr) (f : Str) (ta : TA) : L2.St → Hp → XK → Prop := fun σ H Q => ta σ H fun vs H1 => rErr C f vs H1 Q
theorem PMk.imp {X : Cx} {e : Expr} {t t' : L2.St → Hp → XK → Prop} (h : L2N.PMk X e t) (z : ∀ σ H Q, t' σ H Q → t σ H Q) : L2N.PMk X e t' := fun pins s σ H Q I y => h pins s σ H Q I (z σ H Q y)
def tWk (ta : TA) : TA := fun σ H k => ∃ k1, ta σ H k1 ∧ ∀ vs H1, k1 vs H1 → k vs H1
theorem pa_wk {X : Cx} {es : List Expr} {ta : TA} (ha : PA X es ta) : PA X es (tWk ta) := ⟨fun pos pins s σ H Q I h => by
  obtain ⟨k1, h1, z⟩ := h
  exact thn (ha.run pos pins s σ H k1 I h1) fun us s1 ⟨vs, H1, I1, r, q⟩ => ⟨vs, H1, I1, r, z _ _ q⟩⟩
theorem err_mk {C : Addr} {f : Str} {vs : List V} {H : Hp} {Q : XK} (h : rErr C f vs H Q) : vs.length ≤ 1000 ∧ ∀ a, H a = none → spI C f (.ref a :: (vs ++ [])) (upd H a (exo a C none))
    (fun v H2 => v = .non ∧ ∃ (d : Addr) (fs : List (Str × V)), H2 a = some (exo a C (some d)) ∧ H2 d = some (exd d fs) ∧ H d = none ∧ Q (.ref C) (some d) (upd (del H2 a) d (.xd fs))) (fun _ _ _ => False) := by
  obtain ⟨y, rfl, k⟩ := h
  refine ⟨by show 1 ≤ 1000; omega, fun a na => ⟨a, y, rfl, upd_same, fun dx hd ne => ⟨rfl, dx, [(f, y)], upd_same, by rw [upd_ne ne, upd_same], by rw [upd_ne ne] at hd; exact hd, ?_⟩⟩⟩
  have hd' : H dx = none := by rw [upd_ne ne] at hd; exact hd
  have e : upd (del (upd (upd (upd H a (exo a C none)) dx (exd dx [(f, y)])) a (exo a C (some dx))) a) dx (.xd [(f, y)]) = upd H dx (.xd [(f, y)]) := by
    funext b
    by_cases hb : b = dx
    · subst hb; rw [upd_same, upd_same]
    · rw [upd_ne hb, upd_ne hb]
      by_cases ha : b = a
      · subst ha; rw [del_same, na]
      · rw [del_ne ha, upd_ne ha, upd_ne hb, upd_ne ha]
  rw [e]
  exact k dx hd'
/-- what is known of such a class at C -/
structure ErrI (P : Program) (w : World) (K : PySem.W.Frag) (mg : Str → Option Value) (base : Heap) (x f : Str) (C : Addr) : Prop where
  g : mg x = some (.ref C)
  T : OexC K C
  ini : ∃ (fI : Addr) (fd : FuncData), PySem.W.findIn K (.ref C) "__init__" = some (some (.ref fI)) ∧ PySem.W.typeIn K (.ref fI) = some (.type "function") ∧ Binds K fd ["self", f] [] ∧ FnOk P w K mg base CX0 1 fI fd ["self", f] (spI C f)
/-- the end of C(e, ..) -/
theorem mk_endN {X : Cx} {pins : List (Addr × Obj)} {σ : L2.St} {H1 H2 : Hp} {Q : XK} {hp hp2 h2 : Heap} {g1 g2 : Array GenState} {d1 d2 : Drawn} {t1 t2 : Nat} {os1 os2 : OsState} {a C d : Addr} {fs : List (Str × V)} (T : Raises X (.ref C)) (I1 : Inv X pins σ H1 ⟨hp, g1, d1, t1, os1⟩)
    (ge : hp.objs.size ≤ a) (st : ∀ b o, hp.get? b = some o → hp2.get? b = some o) (un : Un (frs X.stack) [] (upd H1 a (exo a C none)) H2 hp2 h2) (hok : HOk X.prog X.w H2 h2) (ho : os2 = os1) (hb : AllBare g2)
    (ea : H2 a = some (exo a C (some d))) (ed : H2 d = some (exd d fs)) (nd : H1 d = none) (q : Q (.ref C) (some d) (upd (del H2 a) d (.xd fs))) : L2N.MkP X pins σ Q (.ref a) ⟨h2, g2, d2, t2, os2⟩ := by
  obtain ⟨t0, G, J, k, ge2, hoe, na⟩ := mk_end0 (d2 := d2) (t2 := t2) I1 ge st un hok ho hb ea ed nd
  exact ⟨a, _, _, _, _, .ref C, some d, rfl, J, k, ge2, hoe, ⟨rfl, rfl, fun vs e => by cases e; rfl⟩, rfl, rfl, na, rfl, hb, T, q⟩
theorem pe_mkI {X : Cx} {x f : Str} {C : Addr} {ta : TA} {e : Expr} {p pos : Pos} {k : Nat} (T : ErrI X.prog X.w X.K X.mg X.base x f C) (hr : Room k X.A) (ha : PA X [e] ta) (hk : 2 ≤ k) (hg : Gl X x := by rfl) (hdb : (x == ("__debug__" : Str)) = false := by decide)
    (he : starEach [e] X.env = (false, eval e X.env) :: starEach [] X.env := by rfl) (hpl : (backTo pos (starEach [] X.env)).any (·.1) = false := by rfl) : L2N.PMk X (.Call (.Name x p) [e] [] pos) (tErr C f ta) := by
  obtain ⟨gm, T, fI, fd, iC, tI, hb, F⟩ := T
  intro pins s σ H Q I h
  refine wpAny_Call_Name_kw (ld_glob I hg gm (PySem.W.callWith_K (h₀ := X.base) I.ok.mod.kin T.kC (thn (ha.run pos pins s σ H _ I h) fun ws s1 z => ?_) he hpl) hdb)
  obtain ⟨vs, H1, I1, r1, z⟩ := z
  have z0 := z
  obtain ⟨y0, rfl, _⟩ := z0
  obtain ⟨u, rfl, ru⟩ := vals1 r1
  refine ⟨I1.kIn, ?_⟩
  show wpAny _ _ (call (.ref C) [u]) _ _ _
  obtain ⟨nm, q, N, bs, bm, sn, sub, ab, col, dd, k0, k1, k2, k3, k5, hC, hbm⟩ := T.cls
  obtain ⟨hp, g, dr, tk, os⟩ := s1
  have ge : hp.objs.size ≤ hp.objs.size + 1 := Nat.le_succ _
  have na : H1 (hp.objs.size + 1) = none := I1.hok.fresh ge
  have st : ∀ b o, hp.get? b = some o → ((hp.push (PySem.W.kdv_tup [u])).push (HandSPX.excO C hp.objs.size)).get? b = some o := fun b o e => Heap.get?_push_of_some _ (Heap.get?_push_of_some _ e)
  have at1 : ((hp.push (PySem.W.kdv_tup [u])).push (HandSPX.excO C hp.objs.size)).get? (hp.objs.size + 1) = some (HandSPX.excO C hp.objs.size) := by heap_get
  have I2 : Inv X pins σ (upd H1 (hp.objs.size + 1) (exo (hp.objs.size + 1) C none)) ⟨(hp.push (PySem.W.kdv_tup [u])).push (HandSPX.excO C hp.objs.size), g, dr, tk, os⟩ := I1.laid (t' := tk) st ge (exo_ok at1)
  have rr : Vals [V.ref (hp.objs.size + 1), y0] [Value.ref (hp.objs.size + 1), u] := .cons rfl (.cons ru .nil)
  have hq := (err_mk z).2 (hp.objs.size + 1) na
  refine wpAny_call (HandSPX.call_own PySem.F.excBase_ValueError (fun Y => HandSPX.refsVE_contains Y bm hbm) (I1.kIn _ _ hC) (PySem.W.looks_findIn I1.kIn iC) (fun self => PySem.W.bind_fn I1.kIn self tI) (by rw [sizeLine_eq]; show 1 ≤ 16777216; decide)
    (codeAny_mono (F.run _ X.stack _ _ ⟨[Value.ref (hp.objs.size + 1), u], []⟩ [Value.ref (hp.objs.size + 1), u] _ _ (fun _ _ _ => False) ((hr.mono hk).make C [u] []) (I2.env0.make C [u] []) (hb _ [Value.ref (hp.objs.size + 1), u] I2.kIn rfl) rr hq) fun res s2 w2 => ?_))
  match res, w2 with
  | .error e, w2 => exact pass0 pins σ _ _ e s2 I2 w2
  | .ok (.ret v), w2 =>
    obtain ⟨v2, H2, os2, ba2, un2, ok2, rv, ev, d, fs, ea, ed, hd1, q2⟩ := w2
    subst ev
    obtain ⟨h2, g2, d2, t2, os'⟩ := s2
    exact ⟨rv, mk_endN (raises_own T.exC T.tyC) I1 ge st un2 ok2 os2 ba2 ea ed hd1 q2⟩
  | .ok .next, w2 => exact False.elim w2
  | .ok .brk, w2 => exact False.elim w2
  | .ok .cont, w2 => exact False.elim w2
def tRz (W : WX) (t : L2.St → Hp → XK → Prop) : TS := fun _ σ H => t σ H fun cls d H' => W cls d σ H'
theorem ps_raiseI {X : Cx} {W : WX} {e : Expr} {t : L2.St → Hp → XK → Prop} {pos : Pos} (hc : X.calm = true) (tk : L2N.Takes X W) (he : L2N.PMk X e t) : PS X (.Raise (some e) none pos) (tRz W t) := L2N.ps_raise hc tk he
section
variable {L : Lg} {σ : L2.St} {D : Ends} {W : WX} {t : L2.St → Hp → XK → Prop} {C : Addr} {f : Str} {ta : TA} {Q : XK} {y : V}
theorem t_rz (k : Tr L fun H => t σ H fun cls d H' => W cls d σ H') : Tr L fun H => tRz W t D σ H := k
theorem t_err (k : Tr L fun H => ta σ H fun vs H1 => rErr C f vs H1 Q) : Tr L fun H => tErr C f ta σ H Q := k
theorem t_rErr (k : ∀ d, Tr ((d, .xd [(f, y)]) :: L) fun H => Q (.ref C) (some d) H) : Tr L fun H => rErr C f [y] H Q := fun H l => ⟨y, rfl, fun d hd => k d _ (l.new hd)⟩
end
theorem GV.ref {mg : Str → Option Value} {x : Str} {C : Addr} (h : GV mg x (.ref C)) : mg x = some (.ref C) := by
  obtain ⟨u, e, r⟩ := h
  obtain rfl : u = Value.ref C := r
  exact e
/-! ### from the text -/
/-- the statement at place j of a class's body -/
def inCls (s : Stmt) (j : Nat) : Stmt := match s with
  | .ClassDef _ _ _ b _ _ _ _ _ _ _ => b.getD j (.Pass ⟨0, 0, 0, 0⟩)
  | s => s
section
variable {P : Program} {w : World} {K : PySem.W.Frag} {mg : Str → Option Value} {base : Heap}
theorem init_ok {f qual : Str} {st : Stmt} {fI C : Addr} {od an : Option Addr} {sl : Array (Option Value)} {oc kV dc pm cd ct : Value} {t : TS} (S : FnScope ["self", f] ["self", f] (defScope st))
    (lk : K.lookup fI = some ⟨oc, od, .func (PySem.W.fnOf "__init__" qual (defArgs st) (defBody st) (defScope st) .none kV dc pm an cd ct), sl⟩) (hcd : PySem.W.codeIn K cd qual = true)
    (body : ∀ (A : Around) (outer : List Env) (s : Shared) (H : Hp) (Q : VK) (E : XK), PSs (cxOf CX0 P w K mg base ["self", f] qual (defScope st) fI cd A outer s H E).nox (defBody st) t)
    (run : ∀ (a : Addr) (y : V) (H : Hp) (Q : VK), H a = some (exo a C none) → (∀ dx, H dx = none → dx ≠ a → Q .non (upd (upd H dx (exd dx [(f, y)])) a (exo a C (some dx)))) → t { nx := fun _ H' => Q .non H', rt := Q } [some (.ref a), some y] H) :
    FnOk P w K mg base CX0 1 fI (PySem.W.fnOf "__init__" qual (defArgs st) (defBody st) (defScope st) .none kV dc pm an cd ct) ["self", f] (spI C f) :=
  fn_of lk hcd S (fun vs H Q E h => by obtain ⟨a, y, rfl, _⟩ := h; rfl) fun A outer s H vs Q E hr hsp => by
    obtain ⟨a, y, rfl, ea, k⟩ := hsp
    exact ⟨t, (body A outer s H Q E).nox, run a y H Q ea k⟩
/-- the reading of such an __init__ -/
def tIni (K : PySem.W.Frag) (m f : Str) : TS := tSeq (tDrop (tVeI K (tCons (tVar 0) (tCons (tC (.str m)) tNil)))) (tOst K f (tVar 0) (tVar 1))
theorem ini_run {m f : Str} {C a : Addr} {y : V} {H : Hp} {Q : VK} (T : OexC K C) (no : PySem.W.findIn K (.ref C) f = some none) (ea : H a = some (exo a C none)) (k : ∀ dx, H dx = none → dx ≠ a → Q .non (upd (upd H dx (exd dx [(f, y)])) a (exo a C (some dx)))) :
    tIni K m f { nx := fun _ H' => Q .non H', rt := Q } [some (.ref a), some y] H := by
  refine ⟨.ref a, rfl, a, C, [.str m], rfl, by show 1 ≤ 1000; omega, T, ea, y, rfl, .ref a, rfl, a, C, rfl, T, no, .inl ⟨ea, k⟩⟩
/-- a class with its own __init__, all of it -/
theorem errI_mk {f x qual : Str} {st : Stmt} {fI S C N : Addr} {nm q : Str} {bs sub : List Value} {sn : List Str} {ab : Bool} {col : Option Bool} {dd : Option Addr} {k0 k1 k2 k3 k5 : Option Value} {od an : Option Addr} {sl : Array (Option Value)} {oc kV dc pm cd ct : Value} {t : TS}
    (S0 : FnScope ["self", f] ["self", f] (defScope st)) (body : ∀ (S : Addr), mg "StickyHeadsError" = some (.ref S) → ClX.CRead K S (.type "type") → PySem.W.findCls K (.ref S) (.type "type") "__init__" = some (.val (.builtin "ValueError.__init__")) →
      ∀ (A : Around) (outer : List Env) (s : Shared) (H : Hp) (Q : VK) (E : XK), PSs (cxOf CX0 P w K mg base ["self", f] qual (defScope st) fI cd A outer s H E).nox (defBody st) t)
    (run : ∀ (a : Addr) (y : V) (H : Hp) (Q : VK), OexC K C → PySem.W.findIn K (.ref C) f = some none → H a = some (exo a C none) → (∀ dx, H dx = none → dx ≠ a → Q .non (upd (upd H dx (exd dx [(f, y)])) a (exo a C (some dx)))) → t { nx := fun _ H' => Q .non H', rt := Q } [some (.ref a), some y] H)
    (binds : ∀ (us : List Value), us.length = 2 → bindArgs (PySem.W.fnOf "__init__" qual (defArgs st) (defBody st) (defScope st) .none kV dc pm an cd ct) ⟨us, []⟩ = pure ((["self", f] : List Str).zip us))
    (g : GV mg x (.ref C)) (gS : GV mg "StickyHeadsError" (.ref S)) (iC : PySem.W.findIn K (.ref C) "__init__" = some (some (.ref fI))) (tI : PySem.W.typeIn K (.ref fI) = some (.type "function"))
    (lk : K.lookup fI = some ⟨oc, od, .func (PySem.W.fnOf "__init__" qual (defArgs st) (defBody st) (defScope st) .none kV dc pm an cd ct), sl⟩) (hcd : PySem.W.codeIn K cd qual = true)
    (xL : K.lookup C = some (excClassObj nm q C N bs [.ref S, .type "ValueError", .type "Exception", .type "BaseException", .type "object"] true sn sub ab col dd k0 k1 k2 k3 k5 "ValueError.__new__"))
    (sa : PySem.W.findIn K (.ref C) "__setattr__" = some (some (.builtin "object.__setattr__"))) (exC : PySem.W.subIn K (.ref C) (.type "BaseException") = some true) (tyC : PySem.W.typeIn K (.ref C) = some (.type "type")) (kC : PySem.W.keepIn K (.ref C) = true)
    (no : PySem.W.findIn K (.ref C) f = some none) (rd : PySem.W.readsIn K S (.type "type") = true) (ga : PySem.W.specialIn K (.ref S) "__getattribute__" = some (some (.builtin "type.__getattribute__")))
    (vV : PySem.W.findCls K (.ref S) (.type "type") "__init__" = some (.val (.builtin "ValueError.__init__"))) : ErrI P w K mg base x f C := by
  have T : OexC K C := ⟨⟨nm, q, N, bs, _, sn, sub, ab, col, dd, k0, k1, k2, k3, k5, xL, rfl⟩, sa, exC, tyC, kC⟩
  exact ⟨g.ref, T, fI, _, iC, tI, Binds.all binds, init_ok S0 lk hcd (body S gS.ref ⟨rd, ga⟩ vV) fun a y H Q ea k => run a y H Q T no ea k⟩
theorem excC_mk {h : Heap} (X : K.In h) (G : h.Ns mainGlobals mg) {x : Str} {C : Addr} (a : PySem.W.nsIn K mainGlobals x = some (some (.ref C))) (k : PySem.W.keepIn K (.ref C) = true)
    (e : PySem.W.excIn K C [.type "ValueError", .type "Exception", .type "BaseException", .type "object"] "ValueError.__new__" = true) (r : PySem.W.subIn K (.ref C) (.type "BaseException") = some true)
    (t : PySem.W.typeIn K (.ref C) = some (.type "type")) (i : PySem.W.isClsIn K C = true) (s : PySem.W.subIn K (.ref C) (.ref C) = some true) : ExcC K mg x C := ⟨PySem.W.mg_of X G a, k, e, r, t, exm_own r i t s⟩
theorem cls_mk {h : Heap} (X : K.In h) (G : h.Ns mainGlobals mg) {x : Str} {C : Addr} (a : PySem.W.nsIn K mainGlobals x = some (some (.ref C))) : GV mg x (.ref C) := ⟨_, PySem.W.mg_of X G a, rfl⟩
end
end Hz

/-! Hz, part H: defs that are called within an except suite (no loop, no comprehension, no raise in them). -/
namespace Hz
open PySem PySem.Spec PyProof.Rows L2 RZ
/-- room for k calls, whatever is handled; no repr is under way -/
structure RoomN (k : Nat) (A : Around) : Prop where
  dp : A.depth + 3 * k + 5 < recursionLimit
  un : A.units + 16 * k + 200 < cLine
  gd : A.guards = some []
theorem RoomN.mono {j k : Nat} {A : Around} (r : RoomN k A) (h : j ≤ k) : RoomN j A :=
  ⟨by
    have z := r.dp
    omega, by
    have z := r.un
    omega, r.gd⟩
theorem RoomG.hot {k : Nat} {A : Around} {v : Option Value} (r : RoomG k A) : RoomN k (A.mark v) := ⟨r.rm.dp, r.rm.un, r.gd⟩
theorem RoomN.cold {k : Nat} {A : Around} (r : RoomN k A) : RoomG k { A with handled := none } := ⟨⟨rfl, r.dp, r.un⟩, r.gd⟩
theorem RoomN.in1 {k : Nat} {A : Around} (r : RoomN (k + 1) A) (env : Env) : RoomN k (A.deeper env) := by
  have z := r.cold.deeper env
  exact ⟨z.rm.dp, z.rm.un, z.gd⟩
theorem RoomN.dlt {k : Nat} {A : Around} (r : RoomN k A) : A.depth < recursionLimit := by
  have z := r.dp
  omega
section
variable {P : Program} {w : World} {K : PySem.W.Frag} {mg : Str → Option Value} {base : Heap} {CX : CXT} {k : Nat} {f : Addr} {fd : FuncData} {ps : List Str} {sp : Sp}
theorem env0_mark {A : Around} {outer : List Env} {s : Shared} {H : Hp} (e : Env0 P w K mg base A outer s H) (v : Option Value) : Env0 P w K mg base { A with handled := v } outer s H :=
  ⟨e.frames, e.mod, e.bs, e.bsz, e.funs, e.frf, e.hok, e.bare⟩
/-- the first argument is the error that is handled -/
def Hh (A : Around) (vs : List V) : Prop := ∀ a r, vs = .ref a :: r → A.handled = some (.ref a)
/-- what such a def promises -/
structure FnN (P : Program) (w : World) (K : PySem.W.Frag) (mg : Str → Option Value) (base : Heap) (CX : CXT) (k : Nat) (f : Addr) (fd : FuncData) (ps : List Str) (sp : Sp) : Prop where
  ln : ∀ vs H Q E, sp vs H Q E → vs.length = ps.length
  go : ∀ (A : Around) (outer : List Env) (s : Shared) (H : Hp) (args : Args) (us : List Value) (vs : List V) (Q : VK) (E : XK),
    RoomN k A → Hh A vs → Env0 P w K mg base A outer s H → BindsTo s fd args (ps.zip us) → Vals vs us → sp vs H Q E → codeAny (model P w) A (.call (.ref f) args) (CR CX outer P w H s Q E) s
/-- the context of its body -/
def cxN (CX : CXT) (P : Program) (w : World) (K : PySem.W.Frag) (mg : Str → Option Value) (base : Heap) (N : List Str) (qual : Str) (scope : Scope) (f : Addr) (cd : Value) (A : Around) (outer : List Env) (s : Shared) (H : Hp) (E : XK) : Cx :=
  { cxOf CX P w K mg base N qual scope f cd A outer s H E with calm := false }
theorem inv_startN {N : List Str} {qual : Str} {scope : Scope} {cd : Value} {A : Around} {outer : List Env} {s s1 : Shared} {H : Hp} {E : XK} {us : List Value} {vs : List V} (S : FnScope N ps scope) (e0 : Env0 P w K mg base A outer s H)
    (hl : vs.length = ps.length) (r : Vals vs us)
    (x : InCallC s s.heap.objs.size (bindL (envOfC qual scope s.heap.objs.size f cd).kindOf (ps.zip us) fun _ => none) (cellsFrom (s.heap.objs.size + 1) scope.names []) (bindC (envOfC qual scope s.heap.objs.size f cd).kindOf (ps.zip us) fun _ => none) s1) :
    Inv (cxN CX P w K mg base N qual scope f cd A outer s H E) [] (start N vs) H s1 := by
  have I := inv_start (CX := CX) (E := E) (f := f) (cd := cd) (qual := qual) (A := { A with handled := none }) S rfl (env0_mark e0 none) hl r x
  have o := I.ok
  exact ⟨⟨o.mod, o.kind, o.glob, o.blt, o.above, o.inj, o.has, o.cab, fun z => Bool.noConfusion (show false = true from z), Around.frames_deeper e0.frames, o.stk, o.exf, o.bs, o.bsz, o.noex, o.exfs, o.funs, o.frf⟩,
    I.os, I.bare, I.base, I.loc, I.cell, I.free, I.freeC, I.pin, I.hok, I.len⟩
theorem fnN_of {name qual : Str} {params : Arguments} {body : List Stmt} {scope : Scope} {dV kV doc pm cdv ct oc : Value} {an od : Option Addr} {osl : Array (Option Value)} {N : List Str}
    (lk : K.lookup f = some ⟨oc, od, .func (PySem.W.fnOf name qual params body scope dV kV doc pm an cdv ct), osl⟩)
    (hcd : PySem.W.codeIn K cdv qual = true) (S : FnScope N ps scope) (len : ∀ vs H Q E, sp vs H Q E → vs.length = ps.length)
    (hbody : ∀ (A : Around) (outer : List Env) (s : Shared) (H : Hp) (vs : List V) (Q : VK) (E : XK), RoomN k (A.deeper (envOfC qual scope s.heap.objs.size f cdv)) → Hh A vs → sp vs H Q E →
      ∃ t, PSs (cxN CX P w K mg base N qual scope f cdv A outer s H E) body t ∧ t { nx := fun _ H' => Q .non H', rt := Q } (start N vs) H) :
    FnN P w K mg base CX (k + 1) f (PySem.W.fnOf name qual params body scope dV kV doc pm an cdv ct) ps sp := by
  refine ⟨len, fun A outer s H args us vs Q E ro hh e0 hb rv h => ?_⟩
  have kx : K.In s.heap := e0.mod.kin.keeps fun b o e => (e0.bs b o e).1
  refine codeAny_call_function ro.dlt (kx _ _ lk) rfl S.co S.gen rfl (PySem.W.codeRec_of kx hcd) (hb _ _ _ _ ?_)
  have kd : ∀ y ∈ ps.zip us, scope.names.lookup y.1 = some .local ∨ (scope.names.lookup y.1 = some .cell ∧ ((cellsFrom (s.heap.objs.size + 1) scope.names []).lookup y.1).isSome = true) := fun y hy => by
    obtain ⟨n, v⟩ := y
    cases S.par n (List.of_mem_zip hy).1 with
    | inl z => exact .inl z
    | inr z => exact .inr ⟨z, PySem.W.cellsFrom_some _ _ _ (.inl z)⟩
  refine wpAny_newFunctionEnv_cells S.kind kd fun env he s1 x => ?_
  subst he
  refine ⟨(e0.mod.nolimit.keeps fun b o e => (e0.bs b o e).1).keeps x.toInCall.keep, codeAny_func ?_⟩
  obtain ⟨t, ht, ht2⟩ := hbody A outer s H vs Q E (ro.in1 _) hh h
  refine wpAny_mono (ht.run [] s1 _ H _ (inv_startN S e0 (len _ _ _ _ h) rv x) ht2) ?_ fun _ _ z => z
  rintro fl s2 z
  match fl, z with
  | .ret u, ⟨v, _, H2, J, r2, q⟩ => exact ⟨v, H2, J.os, J.bare, J.base, J.hok, r2, q⟩
  | .next, ⟨_, H2, J, q⟩ => exact ⟨.non, H2, J.os, J.bare, J.base, J.hok, rfl, q⟩
  | .brk, ⟨_, _, _, q⟩ => exact False.elim q
  | .cont, ⟨_, _, _, q⟩ => exact False.elim q
theorem FunOkN {x qual : Str} {st : Stmt} {N : List Str} (F : Fun K x qual st f fd) (S : FnScope N ps (defScope st)) (len : ∀ vs H Q E, sp vs H Q E → vs.length = ps.length)
    (hbody : ∀ (cdv : Value) (A : Around) (outer : List Env) (s : Shared) (H : Hp) (vs : List V) (Q : VK) (E : XK), RoomN k (A.deeper (envOfC qual (defScope st) s.heap.objs.size f cdv)) → Hh A vs → sp vs H Q E →
      ∃ t, PSs (cxN CX P w K mg base N qual (defScope st) f cdv A outer s H E) (defBody st) t ∧ t { nx := fun _ H' => Q .non H', rt := Q } (start N vs) H) : FnN P w K mg base CX (k + 1) f fd ps sp := by
  obtain ⟨oc, od, kV, doc, pm, an, cdv, ct, osl, rfl, lk, hcd⟩ := F.ex
  exact fnN_of lk hcd S len (hbody cdv)
end
/-- such a def, by its name -/
def OkN (P : Program) (w : World) (K : PySem.W.Frag) (mg : Str → Option Value) (base : Heap) (CX : CXT) (k : Nat) (x : Str) (ps : List Str) (sp : Sp) : Prop :=
  ∃ (f : Addr) (fd : FuncData), mg x = some (.ref f) ∧ PySem.W.keepIn K (.ref f) = true ∧ Binds K fd ps [] ∧ FnN P w K mg base CX k f fd ps sp
theorem okN_of {P : Program} {w : World} {K : PySem.W.Frag} {mg : Str → Option Value} {base : Heap} {CX : CXT} {k : Nat} {f : Addr} {fd : FuncData} {x : Str} {ps : List Str} {sp : Sp} (a : mg x = some (.ref f)) (b : PySem.W.keepIn K (.ref f) = true) (c : Binds K fd ps [])
    (d : FnN P w K mg base CX k f fd ps sp) (_ : LK K f fd) : OkN P w K mg base CX k x ps sp := ⟨f, fd, a, b, c, d⟩
section
variable {X : Cx} {CX : CXT} {k : Nat} {f : Addr} {fd : FuncData} {ps : List Str} {sp : Sp} {E : L2.St → XK} {x : Str} {p pos : Pos} {e : Expr} {es : List Expr} {t : TA}
theorem runN {pins : List (Addr × Obj)} {σ : L2.St} {H : Hp} {s : Shared} {Q : VK} {us : List Value} {vs : List V} (F : FnN X.prog X.w X.K X.mg X.base CX k f fd ps sp) (ro : RoomN k X.A)
    (hb : Binds X.K fd ps []) (hx : PassesAt CX X σ (E σ)) (I : Inv X pins σ H s) (rv : Vals vs us) (hh : Hh X.A vs) (h : sp vs H Q (E σ)) :
    wpAny (model X.prog X.w) X.A (call (.ref f) us) (EP X pins σ Q) X.xe s := by
  have el : us.length = ps.length := rv.length.symm.trans (F.ln _ _ _ _ h)
  have bb := hb s us I.kIn (by rw [List.append_nil, el])
  rw [List.append_nil] at bb
  refine wpAny_call (codeAny_mono (F.go X.A X.stack s H ⟨us, []⟩ us vs Q (E σ) ro hh I.env0 bb rv h) ?_)
  rintro res s2 z
  match res, z with
  | .error e, z => exact hx pins H s e s2 I z
  | .ok (.ret u), z => exact I.after z
  | .ok .next, z => exact False.elim z
  | .ok .brk, z => exact False.elim z
  | .ok .cont, z => exact False.elim z
/-- f(e, ..) within the suite of the error at a: its first argument is this error -/
def tCallN (a : Addr) (sp : Sp) (E : L2.St → XK) (t : TA) : TE := fun σ H Q => t σ H fun vs H1 => (∃ r, vs = V.ref a :: r) ∧ sp vs H1 Q (E σ)
theorem pe_callN {a : Addr} (ea : X.A.handled = some (.ref a)) (F : OkN X.prog X.w X.K X.mg X.base CX k x ps sp) (ro : RoomN k X.A) (hx : ∀ σ, PassesAt CX X σ (E σ)) (ha : PA X (e :: es) t) (hg : Gl X x := by rfl)
    (hdb : (x == ("__debug__" : Str)) = false := by decide) (he : starEach (e :: es) X.env = (false, eval e X.env) :: starEach es X.env := by rfl)
    (hpl : (backTo pos (starEach es X.env)).any (·.1) = false := by rfl) : PE X (.Call (.Name x p) (e :: es) [] pos) (tCallN a sp E t) := by
  obtain ⟨f, fd, h1, h2, hb, F⟩ := F
  exact ⟨fun pins s σ H Q I h => wpAny_Call_Name_kw (ld_glob I hg h1 (PySem.W.callWith_K (h₀ := X.base) I.ok.mod.kin h2 (thn (ha.run pos pins s σ H _ I h) fun us s1 ⟨vs, H1, I1, rv, ⟨r, er⟩, q⟩ => ⟨I1.kIn, runN F ro hb (hx σ) I1 rv (fun b r2 eb => by rw [er] at eb; cases eb; exact ea) q⟩) he hpl) hdb)⟩
end
def rCallN (a : Addr) (sp : Sp) (E : XK) (vs : List V) (H : Hp) (Q : VK) : Prop := (∃ r, vs = V.ref a :: r) ∧ sp vs H Q E
theorem t_callN {L : Lg} {σ : L2.St} {Q : VK} {a : Addr} {sp : Sp} {E : L2.St → XK} {t : TA} (k : Tr L fun H => t σ H fun vs H1 => rCallN a sp (E σ) vs H1 Q) : Tr L fun H => tCallN a sp E t σ H Q := k
theorem t_rCallN {L : Lg} {Q : VK} {a : Addr} {r : List V} {sp : Sp} {E : XK} (k : Tr L fun H => sp (V.ref a :: r) H Q E) : Tr L fun H => rCallN a sp E (V.ref a :: r) H Q := fun H l => ⟨⟨r, rfl⟩, k H l⟩
end Hz

/-! Hz, part J: the end of lists and tuples, unpacking, list comprehensions where an error is handled. -/
namespace Hz
open PySem PySem.Spec PyProof.Rows L2 RZ HotX
section
variable {prog : Program} {w : World} {A : Around} {E : Value → Shared → Prop} {s : Shared}
/-- StopIteration, made and raised where an error is handled; what stood, stands -/
theorem stop_hot {x1 : Addr} {Q : Fin → Shared → Prop} (hot : HotAt A x1 s.heap)
    (h : ∀ e h', ({ s with heap := h' } : Shared).TypeIs (.ref e) "StopIteration" → (∀ b o, s.heap.get? b = some o → h'.get? b = some o) → E (.ref e) { s with heap := h' }) :
    wpAny (model prog w) A (newExc (.type "StopIteration") [] >>= fun e => raiseNew e) Q E s := by
  obtain ⟨hh, o1, vs1, h1, d1, c1⟩ := hot
  refine wpAny_bind ?_
  simp only [newExc, newTuple]
  refine wpAny_bind (wpAny_newObj_type ?_ (by size_fits))
  refine wpAny_bind (m := firstArgMember _ _) (wpAny_of_eq (a := Value.none) (by first | rfl | (simp only [firstArgMember]; rfl)) ?_)
  refine wpAny_newObj_type ?_ (by size_fits)
  refine raiseNew_hot ⟨hh, o1, vs1, Heap.get?_push_of_some _ (Heap.get?_push_of_some _ h1), d1, c1⟩ (Nat.ne_of_lt (Heap.lt_size (Heap.get?_push_of_some _ h1))) (Heap.get?_push_size _ rfl) rfl (by first | (simp; done) | (simp; omega) | (simp only [Array.size_append]; simp; omega)) ?_
  refine h _ _ ⟨_, Heap.get?_update_self _ (Heap.get?_push_size _ rfl) rfl, rfl⟩ fun b o e => ?_
  rw [Heap.get?_update_other _ _ (Nat.ne_of_gt (Heap.lt_size (Heap.get?_push_of_some _ e)))]
  exact Heap.get?_push_of_some _ (Heap.get?_push_of_some _ e)
theorem hot_upd {it x1 : Addr} {h : Heap} {f : Obj → Obj} (hot : HotAt A x1 h) (ne : it ≠ x1) : HotAt A x1 (h.update it f) := by
  obtain ⟨hh, o1, vs1, h1, d1, c1⟩ := hot
  exact ⟨hh, o1, vs1, by rw [Heap.get?_update_other _ _ ne]; exact h1, d1, c1⟩
theorem hot_ne {it x1 : Addr} {h : Heap} {o : Obj} {vs : Array Value} (hot : HotAt A x1 h) (ho : h.get? it = some o) (hd : o.data = .fields vs) (n2 : vs[2]? = none) : it ≠ x1 := fun z => by
  obtain ⟨hh, o1, vs1, h1, d1, c1⟩ := hot
  rw [← z, ho] at h1
  cases h1
  rw [hd] at d1
  cases d1
  rw [n2] at c1
  cases c1
theorem hot_list_end {it l x1 : Addr} {i : Nat} {items : Array Value} {Q : Option Value → Shared → Prop} (hot : HotAt A x1 s.heap) (hit : s.heap.IsListIter it l i) (hl : s.heap.IsList l items) (hx : items[i]? = none)
    (hQ : ∀ h', Heap.ExtBut it s.heap h' → Q none { s with heap := h' }) : wpAny (model prog w) A (pyNext (.ref it)) Q E s := by
  obtain ⟨o, ho, hc, hd⟩ := id hit
  obtain ⟨ol, hol, _, nl, hdl⟩ := hl
  have ne := hot_ne hot ho hd rfl
  unfold pyNext
  refine wpAny_bind (wpAny_attempt (wpAny_callSpecial?_slot (name := Str.ofString "__next__") hit.typeIs slot_listiter_next (wpAny_call_entry slot_listiter_next hit.typeIs entry_listiter_next ?_ (args_listiter_next _))))
  show wpAny _ _ (field (.ref it) 0 >>= _) _ _ s
  refine wpAny_bind (wpAny_field ho hd (x := .ref l) rfl ?_)
  show wpAny _ _ (if (Value.ref l == Value.none) = true then _ else _) _ _ s
  have nn : ¬ ((Value.ref l == Value.none) = true) := Bool.false_ne_true
  rw [if_neg nn]
  show wpAny _ _ (field (.ref it) 1 >>= _) _ _ s
  refine wpAny_bind (wpAny_field ho hd (x := .int i 0) rfl ?_)
  show wpAny _ _ (seqItems? (.ref l) >>= _) _ _ s
  refine wpAny_bind (wpAny_seqItems hol hdl ?_)
  simp only [Int.toNat_natCast, hx]
  refine wpAny_bind (wpAny_rule (wpAny_bind (wpAny_setField ho hd (by simp) ?_)))
  refine stop_hot (x1 := x1) (show HotAt A.in1 x1 _ from hot_upd hot ne) fun e h' te k => ?_
  refine wpAny_bind (wpAny_isInstance (T := "StopIteration") (b := true) te isSubtype_stop ?_)
  exact wpAny_pure (hQ _ fun b u hb eb => k b u (by rw [Heap.get?_update_other _ _ (Ne.symm hb)]; exact eb))
theorem hot_tuple_end {it l x1 : Addr} {i : Nat} {items : Array Value} {Q : Option Value → Shared → Prop} (hot : HotAt A x1 s.heap) (hit : IsTupIter s.heap it l i) (hl : IsTup s.heap l items) (hx : items[i]? = none)
    (hQ : ∀ h', Heap.ExtBut it s.heap h' → Q none { s with heap := h' }) : wpAny (model prog w) A (pyNext (.ref it)) Q E s := by
  obtain ⟨o, ho, hc, hd⟩ := id hit
  obtain ⟨ol, hol, _, nl, hdl⟩ := hl
  have ne := hot_ne hot ho hd rfl
  unfold pyNext
  refine wpAny_bind (wpAny_attempt (wpAny_callSpecial?_slot (name := Str.ofString "__next__") hit.typeIs slot_tupleiter_next (wpAny_call_entry slot_tupleiter_next hit.typeIs entry_tupleiter_next ?_ (args_tupleiter_next _))))
  show wpAny _ _ (field (.ref it) 0 >>= _) _ _ s
  refine wpAny_bind (wpAny_field ho hd (x := .ref l) rfl ?_)
  show wpAny _ _ (if (Value.ref l == Value.none) = true then _ else _) _ _ s
  have nn : ¬ ((Value.ref l == Value.none) = true) := Bool.false_ne_true
  rw [if_neg nn]
  show wpAny _ _ (field (.ref it) 1 >>= _) _ _ s
  refine wpAny_bind (wpAny_field ho hd (x := .int i 0) rfl ?_)
  show wpAny _ _ (seqItems? (.ref l) >>= _) _ _ s
  refine wpAny_bind (wpAny_seqItems hol hdl ?_)
  simp only [Int.toNat_natCast, hx]
  refine wpAny_bind (wpAny_rule (wpAny_bind (wpAny_setField ho hd (by simp) ?_)))
  refine stop_hot (x1 := x1) (show HotAt A.in1 x1 _ from hot_upd hot ne) fun e h' te k => ?_
  refine wpAny_bind (wpAny_isInstance (T := "StopIteration") (b := true) te isSubtype_stop ?_)
  exact wpAny_pure (hQ _ fun b u hb eb => k b u (by rw [Heap.get?_update_other _ _ (Ne.symm hb)]; exact eb))
/-- (a, ..) = a tuple, where an error is handled -/
theorem hot_unpack {t x1 : Addr} {items : Array Value} {targets : List (Bool × (Value → Sem Unit))} {Q : Unit → Shared → Prop} (hot : HotAt A x1 s.heap) (ht : IsTup s.heap t items) (hn : targets.length = items.size) (hs : targets.findIdx? (·.1) = none)
    (h : ∀ h', Heap.ExtBut s.heap.objs.size s.heap h' → wpAny (model prog w) A (assignInOrder (targets.map (·.2)) items.toList) Q E { s with heap := h' }) : wpAny (model prog w) A (unpack (.ref t) targets) Q E s := by
  have hlt : t ≠ s.heap.objs.size := by
    obtain ⟨o, ho, _⟩ := ht
    exact Nat.ne_of_lt (Heap.lt_size ho)
  have hx : x1 ≠ s.heap.objs.size := by
    obtain ⟨_, o1, _, h1, _⟩ := hot
    exact Nat.ne_of_lt (Heap.lt_size h1)
  unfold unpack
  rw [hn, hs]
  refine wpAny_bind (wpAny_holding ?_)
  unfold unpackItems notIterableAtAll
  refine wpAny_bind (wpAny_bind (wpAny_specialOf ht.typeIs slot_tuple_iter.lookup (wpAny_pure ?_)))
  simp only [Bool.false_eq_true, if_false]
  refine wpAny_bind (wpAny_holding (iter_tuple ht (wpAny_bind (wpAny_holding (draw_tuple hlt items.size 0 _ _ ⟨_, Heap.get?_push_size _ rfl, rfl, rfl⟩ (ht.push _) (by omega) fun h₁ i1 s1 => ?_)))))
  have all : List.take items.size (List.drop 0 items.toList) = items.toList := by
    rw [List.drop_zero]
    exact List.take_of_length_le (by simp)
  rw [all, if_neg (by simp)]
  have hot1 : HotAt A x1 h₁ := by
    obtain ⟨hh, o1, vs1, h1, d1, c1⟩ := hot
    exact ⟨hh, o1, vs1, by rw [s1.2 _ hx]; exact Heap.get?_push_of_some _ h1, d1, c1⟩
  refine wpAny_bind (wpAny_holding (hot_tuple_end hot1 i1 ((ht.push _).extBut s1.extBut hlt) (by simp) fun h₂ e2 => ?_))
  simp only [Option.isSome_none, Bool.false_eq_true, if_false]
  exact wpAny_pure (h h₂ fun b o hb e => e2 b o hb (s1.extBut b o hb (Heap.get?_push_of_some _ e)))
end

/-- the error that is handled is a thing of the ledger -/
def Hot (x : Addr) (H : Hp) : Prop := ∃ C d, H x = some (exF x C d)
theorem Hot.here {X : Cx} {pins : List (Addr × Obj)} {σ : L2.St} {H : Hp} {s : Shared} {x : Addr} (h : Hot x H) (ea : X.A.handled = some (.ref x)) (I : Inv X pins σ H s) : HotAt X.A x s.heap := by
  obtain ⟨C, d, e⟩ := h
  obtain ⟨oe, vs, h1, h2, h3, h4, h5⟩ := exF_at I.hok e
  exact ⟨ea, oe, vs, h1, h4, h5⟩
def gTupN (x : Addr) (K : PySem.W.Frag) (n : Nat) (t : TGs) : TG := fun v σ H Q => Hot x H ∧ gTup K n t v σ H Q
section
variable {X : Cx} {x : Addr}
theorem pg_tupN {es : List Expr} {k n : Nat} {t : TGs} {pos : Pos} (ea : X.A.handled = some (.ref x)) (h : PGs X es t) (hn : (assignEach es X.env).length = n := by rfl) (hst : (assignEach es X.env).findIdx? (·.1) = none := by rfl) :
    PG X (.Tuple es k pos) (gTupN x X.K n t) := by
  refine ⟨fun pins s σ H v u Q I r hw => ?_⟩
  obtain ⟨ho, a, xs, rfl, hq, hl, hw⟩ := hw
  cases r
  obtain ⟨its, rv, ht, hz⟩ := I.tuple hq
  rw [assign_Tuple]
  refine wpAny_bind (wpAny_standAt (hot_unpack (ho.here ea I) ht (by simp [hn, ← hl, rv.length]) hst fun h' k => ?_))
  have Y : Inv X pins σ H { s with heap := h' } := I.kept (t' := s.toks) fun b o e => k b o (Nat.ne_of_lt (Heap.lt_size e)) e
  exact h.run pins _ σ H xs _ Q Y (by simpa using rv) hw
variable {pins : List (Addr × Obj)} {s : Shared} {σ : L2.St} {H : Hp} {E : Value → Shared → Prop} {it a : Addr} {i : Nat} {tg : Expr}
theorem item_hot (I : Inv X pins σ H s) (hf : FpOk X pins H it) (st : s.heap.IsListIter it a i) (hg : (Itl X.K a).go i H) :
    wpAny (model X.prog X.w) X.A (pyNext (.ref it)) (fun r z => ∃ u, r = some u ∧ wpAny (model X.prog X.w) X.A (letOwnedTupleGo tg (.ref it) u) (fun _ z2 => ∃ v G, Inv X pins σ G z2 ∧ RelV v u ∧ (Itl X.K a).yld i H v G ∧ z2.heap.IsListIter it a (i + 1) ∧ G it = none) E z) E s := by
  obtain ⟨xs, v, hq, hv⟩ := hg
  obtain ⟨its, rv, p, _⟩ := I.list hq
  obtain ⟨u, hu, ru⟩ := rv.get hv
  obtain ⟨f0, f1, f2, f3, f4, f5⟩ := hf
  refine wpAny_pyNext_list_item st p.isList (x := u) (by simpa using hu) fun h' st2 sb => ?_
  have Y : Inv X pins σ H { s with heap := h' } := I.turned (t' := s.toks) (fun b o hb e => (sb.2 b hb).trans e) f0 f1 f3 f4 f5
  obtain ⟨o, e, c, d⟩ := id st2
  exact ⟨u, rfl, go_of (s := { s with heap := h' }) e c d (by decide) ⟨v, H, Y, ru, ⟨rfl, fun ys hy => by rw [I.list_inj hy hq]; exact hv⟩, st2, f0⟩⟩
theorem done_hot (ea : X.A.handled = some (.ref x)) (ho : Hot x H) (I : Inv X pins σ H s) (hf : FpOk X pins H it) (st : s.heap.IsListIter it a i) (hg : (Itl X.K a).stop i H) :
    wpAny (model X.prog X.w) X.A (pyNext (.ref it)) (fun r z => r = none ∧ Inv X pins σ H z) E s := by
  obtain ⟨xs, hq, hv⟩ := hg
  obtain ⟨its, rv, p, _⟩ := I.list hq
  obtain ⟨f0, f1, f2, f3, f4, f5⟩ := hf
  have hl := rv.length
  exact hot_list_end (ho.here ea I) st p.isList (by simp; omega) fun h' eb => ⟨rfl, I.turned (t' := s.toks) (fun b o hb e => eb b o hb e) f0 f1 f3 f4 f5⟩
end
section
variable {X : Cx} {x : Addr}
/-- [elt for target in a list if ..], where the error at x is handled -/
def tLcN (x : Addr) (wi : TI) (g : TG) (tt : TT) (te : TE) (vs : List Nat) : TE := fun σ H Q => tLc wi g tt te vs σ H fun v H1 => Hot x H1 ∧ Q v H1
theorem lc_hot {pins : List (Addr × Obj)} {s : Shared} {σ : L2.St} {H : Hp} {Q : VK} {elt tg iter : Expr} {ifs : List Expr} {scope : Scope} {own : List (Str × Nat)} {pos pos' : Pos} {tl te : TE} {g : TG} {tt : TT} {use : Option (Value → Sem Unit)} {Qf : Value → Shared → Prop}
    (ea : X.A.handled = some (.ref x)) (hN : X.N.Nodup) (I : Inv X pins σ H s) (hl : PE X iter tl) (ok : BlkOk X.N X.env.scope scope own)
    (hg : ∀ (z : Shared) (G : Hp) (C : Addr) (cl : List (Str × Addr)) (fp : List Addr), PG (X.blk z G scope (compEnvC scope cl C X.env) fp) tg g)
    (ht : ∀ (z : Shared) (G : Hp) (C : Addr) (cl : List (Str × Addr)) (fp : List Addr), PTs (X.blk z G scope (compEnvC scope cl C X.env) fp) ifs tt)
    (he : ∀ (z : Shared) (G : Hp) (C : Addr) (cl : List (Str × Addr)) (fp : List Addr), PE (X.blk z G scope (compEnvC scope cl C X.env) fp) elt te) (hs : ∀ y, foldedSetIterable iter X.env y = pure y)
    (h : tLcN x (iList X.K tl) g tt te (own.map (·.2)) σ H Q)
    (back : ∀ D C z m G, Inv X pins σ G z → Q (.ref D) G → z.heap.Ns C m → FpOk X pins G C → compPost (model X.prog X.w) X.A X.xe use Qf (.ref D) C (.ok .next) z) :
    wpAny (model X.prog X.w) X.A (comprehension (.ListComp elt [⟨tg, iter, ifs, 0⟩] scope pos) scope X.env pos' (newList []) false (eval iter X.env) use) Qf X.xe s := by
  have fr : ∀ y ∈ scope.names, y.2 = .free → ∃ c, X.env.cells.lookup y.1 = some c := fun y hy e => by
    cases ok.free y hy e with
    | inl k => exact I.ok.has _ (.inl k)
    | inr k => exact I.ok.has _ (.inr k)
  refine wpAny_comprehension_free (use := use) rfl hs (closure_ok fr) ok.kind (fun y hy e => by rw [ok.uniq y hy, e]) (thn (hl.run pins s σ H _ I h) fun xv z1 hx => ?_)
  obtain ⟨w0, G1, Y1, r1, a, e, ⟨xs, hq⟩, q⟩ := hx
  subst e
  cases r1
  obtain ⟨its, rv, p, hz⟩ := Y1.list hq
  refine wpAny_pyIter_list p.isList ?_
  -- the iterator stands
  generalize hit : z1.heap.objs.size = it
  have st2 : (z1.heap.push { cls := .type "list_iterator", data := .fields #[.ref a, .int 0 0] }).IsListIter it a 0 := by
    rw [← hit]
    exact ⟨_, Heap.get?_push_size _ rfl, rfl, rfl⟩
  generalize hz2 : ({ z1 with heap := z1.heap.push { cls := .type "list_iterator", data := .fields #[.ref a, .int 0 0] } } : Shared) = z2
  have Y2 : Inv X pins σ G1 z2 := by
    rw [← hz2]
    exact Y1.kept (t' := z1.toks) fun b o e => Heap.get?_push_of_some _ e
  have hz2h : z2.heap = z1.heap.push { cls := .type "list_iterator", data := .fields #[.ref a, .int 0 0] } := by rw [← hz2]
  rw [← hz2h] at st2
  have f2 : FpOk X pins G1 it := by
    rw [← hit]
    have k := Y1.fpOk (Nat.le_refl _) (Y1.hok.fresh (Nat.le_refl _))
    exact k
  have lt2 : it < z2.heap.objs.size := by rw [hz2h, Heap.size_push, hit]; exact Nat.lt_succ_self _
  refine wpAny_newObj_type (newEnv_comp ?_) (by show 0 ≤ sizeLine; decide)
  generalize eD : z2.heap.objs.size = D
  have nD : G1 D = none := Y2.hok.fresh (Nat.le_of_eq eD)
  obtain ⟨W, ⟨m0, w0⟩, step0⟩ := q D nD
  generalize hz3 : ({ z2 with heap := z2.heap.push { cls := .type "list", data := .seq ([] : List Value).toArray } } : Shared) = z3
  have hz3h : z3.heap = z2.heap.push { cls := .type "list", data := .seq ([] : List Value).toArray } := by rw [← hz3]
  have Y3 : Inv X pins σ (upd G1 D (.lst [])) z3 := by
    rw [← hz3]
    exact Y2.laid (t' := z2.toks) (fun b o e => Heap.get?_push_of_some _ e) (Nat.le_of_eq eD) ⟨Nat.zero_le _, [], 0, .nil, by rw [← eD]; exact Heap.get?_push_size _ rfl⟩
  have neD : it ≠ D := by rw [← eD]; exact Nat.ne_of_lt lt2
  have f3 : FpOk X pins (upd G1 D (.lst [])) it := ⟨by rw [upd_ne neD]; exact f2.1, f2.2⟩
  have lt3 : it < z3.heap.objs.size := by rw [hz3h, Heap.size_push]; exact Nat.lt_succ_of_lt lt2
  have st3 : z3.heap.IsListIter it a 0 := st2.at fun o e => by rw [hz3h]; exact Heap.get?_push_of_some _ e
  have Y4 := block_start Y3 ok hN (fp := [it]) fun b hb => by
    rw [List.mem_singleton.mp hb]
    exact ⟨f3, lt3⟩
  have pg := hg z3 (upd G1 D (.lst [])) z3.heap.objs.size (cellsFrom (z3.heap.objs.size + 1) scope.names (cloFrom X.env.cells scope.names [])) [it]
  have pt := ht z3 (upd G1 D (.lst [])) z3.heap.objs.size (cellsFrom (z3.heap.objs.size + 1) scope.names (cloFrom X.env.cells scope.names [])) [it]
  have pe := he z3 (upd G1 D (.lst [])) z3.heap.objs.size (cellsFrom (z3.heap.objs.size + 1) scope.names (cloFrom X.env.cells scope.names [])) [it]
  show codeAny _ _ (.compStart (.ListComp elt [⟨tg, iter, ifs, 0⟩] scope pos) 0 (.ref it) (.ref D) (compEnvC scope (cellsFrom (z3.heap.objs.size + 1) scope.names (cloFrom X.env.cells scope.names [])) z3.heap.objs.size X.env))
    (compPost (model X.prog X.w) X.A X.xe use Qf (.ref D) z3.heap.objs.size) { z3 with heap := pushCells (z3.heap.push { cls := .type "dict", data := .dict #[] }) scope.names }
  generalize hce : compEnvC scope (cellsFrom (z3.heap.objs.size + 1) scope.names (cloFrom X.env.cells scope.names [])) z3.heap.objs.size X.env = ce at Y4 pg pt pe ⊢
  have lC : ce.locals = z3.heap.objs.size := by subst hce; rfl
  generalize hG3 : upd G1 D (.lst []) = G3 at Y3 Y4 pg pt pe w0 f3
  generalize hz4 : ({ z3 with heap := pushCells (z3.heap.push { cls := .type "dict", data := .dict #[] }) scope.names } : Shared) = z4 at Y4 ⊢
  have st4 : z4.heap.IsListIter it a 0 := st3.at fun o e => by rw [← hz4]; exact pushCells_keeps _ _ _ _ (Heap.get?_push_of_some _ e)
  have mi : it ∈ [it] := List.mem_singleton.mpr rfl
  have fpo : ∀ {σ' : L2.St} {G : Hp} {z : Shared}, Inv (X.blk z3 G3 scope ce [it]) [] σ' G z → G it = none → FpOk (X.blk z3 G3 scope ce [it]) [] G it := fun {σ' G z} Y n =>
    ⟨n, (Y.ok.exf it mi).1, Y.ok.exfs it mi, .inl mi, fun y c e => (Y.ok.exf it mi).2 y c e, fun p hp => absurd (show p ∈ ([] : List (Addr × Obj)) ++ [] from hp) (by simp)⟩
  have lp : codeAny (model X.prog X.w) X.A (.compLoop (.ListComp elt [⟨tg, iter, ifs, 0⟩] scope pos) 0 (.ref it) (.ref D) ce) (compPost (model X.prog X.w) X.A X.xe use Qf (.ref D) z3.heap.objs.size) z4 := by
    refine compLoop_any (fun n z => ∃ i G, Inv (X.blk z3 G3 scope ce [it]) [] (wipe σ (own.map (·.2))) G z ∧ z.heap.IsListIter it a i ∧ G it = none ∧ W i n G) ?_ m0 ⟨0, G3, Y4, st4, f3.1, w0⟩
    rintro n z5 ⟨i, G5, Y5, st5, n5, w5⟩
    rcases step0 i n G5 w5 with ⟨stop, ho, qq⟩ | ⟨go, Nx, hNx, step⟩
    · refine thnF (done_hot (X := X.blk z3 G3 scope ce [it]) (E := fun _ _ => False) ea ho Y5 (fpo Y5 n5) st5 stop) fun r z6 ⟨hr, Y6⟩ => ?_
      subst hr
      have Y7 : Inv X pins σ G5 z6 := Y3.call' (ch := [it]) Y6.os Y6.base Y6.hok Y6.bare fun b hb => by
        rw [List.mem_singleton.mp hb]
        exact ⟨f3.2.2.2.1, f3.2.1, f3.2.2.2.2.1, f3.2.2.2.2.2⟩
      have nC : G5 z3.heap.objs.size = none := by
        have k : G5 ce.locals = none := Y6.free
        rwa [lC] at k
      obtain ⟨m, hn, _⟩ := Y6.loc
      have hn : z6.heap.Ns ce.locals m := hn
      rw [lC] at hn
      exact back D z3.heap.objs.size z6 m G5 Y7 qq hn (Y3.fpOk (Nat.le_refl _) nC)
    · refine thnF (item_hot (X := X.blk z3 G3 scope ce [it]) (E := fun _ _ => False) (tg := tg) Y5 (fpo Y5 n5) st5 go) fun r z6 ⟨u, hr, h6⟩ => ?_
      subst hr
      refine thnF h6 fun _ z7 ⟨v, G7, Y7, r7, y7, st7, n7⟩ => ?_
      have ob : ∀ b ∈ [it], ∃ o, z7.heap.get? b = some o ∧ ∀ v, o.data ≠ .cell v := fun b hb => by
        rw [List.mem_singleton.mp hb]
        obtain ⟨o, e, c, d⟩ := st7
        exact ⟨o, e, fun v k => by rw [d] at k; cases k⟩
      have Yp := Y7.pinned (fun b hb => by rw [List.mem_singleton.mp hb]; exact fpo Y7 n7) ob
      refine thnF (pg.run _ z7 _ G7 v u _ Yp r7 (step v G7 y7)) fun _ z8 ⟨σ8, G8, Y8, hw8, q8⟩ => ?_
      refine thnF (pt.run _ z8 σ8 G8 _ Y8 q8) fun b z9 ⟨G9, Y9, q9⟩ => ?_
      have fin : ∀ {z : Shared} {G : Hp}, Inv (X.blk z3 G3 scope ce [it]) ([] ++ pinsAt [it] z7.heap) σ8 G z → Nx G → ∃ m, m < n ∧ ∃ i G, Inv (X.blk z3 G3 scope ce [it]) [] (wipe σ (own.map (·.2))) G z ∧ z.heap.IsListIter it a i ∧ G it = none ∧ W i m G := fun {z G} Y nx => by
        obtain ⟨m', hm, w'⟩ := hNx G nx
        have pin : ∀ o, z7.heap.get? it = some o → z.heap.get? it = some o ∧ G it = none := fun o e =>
          let k := Y.pin (it, o) (List.mem_append_right _ (List.mem_append_right _ (mem_pinsAt mi e)))
          ⟨k.1, k.2.1⟩
        have ll : (wipe σ (own.map (·.2))).length = σ8.length := by rw [← hw8, wipe_length]
        refine ⟨m', hm, i + 1, G, (Y.unpinned (pins := [])).weak ll (fun j v e => ?_), st7.at fun o e => (pin o e).1, ?_, w'⟩
        · rw [← hw8] at e
          exact (wipe_some e).1
        · obtain ⟨o, e, _⟩ := ob it mi
          exact (pin o e).2
      cases b with
      | false =>
        simp only [Bool.false_eq_true, if_false] at q9 ⊢
        exact fin Y9 q9
      | true =>
        simp only [if_true] at q9 ⊢
        refine thnF (pe.run _ z9 σ8 G9 _ Y9 q9) fun y z10 ⟨yv, G10, Y10, r10, acc, hD10, hz10, nx⟩ => ?_
        exact app_ok (X := X.blk z3 G3 scope ce [it]) Y10 hD10 hz10 r10 fun z11 Y11 => fin Y11 nx
  exact codeAny_compStart_list lp (wpAny_pyIter_listiter st4 lp)
/-- as a value -/
theorem pe_lcN {elt tg iter : Expr} {ifs : List Expr} {scope : Scope} {own : List (Str × Nat)} {pos : Pos} {tl te : TE} {g : TG} {tt : TT} (ea : X.A.handled = some (.ref x)) (hN : X.N.Nodup) (hl : PE X iter tl) (ok : BlkOk X.N X.env.scope scope own)
    (hg : ∀ (z : Shared) (G : Hp) (C : Addr) (cl : List (Str × Addr)) (fp : List Addr), PG (X.blk z G scope (compEnvC scope cl C X.env) fp) tg g)
    (ht : ∀ (z : Shared) (G : Hp) (C : Addr) (cl : List (Str × Addr)) (fp : List Addr), PTs (X.blk z G scope (compEnvC scope cl C X.env) fp) ifs tt)
    (he : ∀ (z : Shared) (G : Hp) (C : Addr) (cl : List (Str × Addr)) (fp : List Addr), PE (X.blk z G scope (compEnvC scope cl C X.env) fp) elt te) (hs : ∀ y, foldedSetIterable iter X.env y = pure y := by intro _; rfl) :
    PE X (.ListComp elt [⟨tg, iter, ifs, 0⟩] scope pos) (tLcN x (iList X.K tl) g tt te (own.map (·.2))) := by
  refine ⟨fun pins s σ H Q I h => ?_⟩
  rw [eval_ListComp]
  refine lc_hot ea hN I hl ok hg ht he hs h fun D C z m G Y q hn f => ⟨m, hn, fun h2 sb => ?_⟩
  exact ⟨.ref D, G, Y.turned (t' := z.toks) (fun b o hb e => (sb.2 b hb).trans e) f.1 f.2.1 f.2.2.2.1 f.2.2.2.2.1 f.2.2.2.2.2, rfl, q⟩
/-- name = [..] on one line -/
theorem ps_setLcN {i : Nat} {y : Str} {py : Pos} {elt tg iter : Expr} {ifs : List Expr} {scope : Scope} {own : List (Str × Nat)} {pos spos : Pos} {tl te : TE} {g : TG} {tt : TT} (ea : X.A.handled = some (.ref x)) (hN : X.N.Nodup) (hy : X.N[i]? = some y)
    (hyl : X.env.scope.names.lookup y = some .local) (hsw : swapsWith (.ListComp elt [⟨tg, iter, ifs, 0⟩] scope pos) (some (.Name y py)) spos.line X.env = pure true) (hl : PE X iter tl) (ok : BlkOk X.N X.env.scope scope own)
    (hg : ∀ (z : Shared) (G : Hp) (C : Addr) (cl : List (Str × Addr)) (fp : List Addr), PG (X.blk z G scope (compEnvC scope cl C X.env) fp) tg g)
    (ht : ∀ (z : Shared) (G : Hp) (C : Addr) (cl : List (Str × Addr)) (fp : List Addr), PTs (X.blk z G scope (compEnvC scope cl C X.env) fp) ifs tt)
    (he : ∀ (z : Shared) (G : Hp) (C : Addr) (cl : List (Str × Addr)) (fp : List Addr), PE (X.blk z G scope (compEnvC scope cl C X.env) fp) elt te) (hs : ∀ y, foldedSetIterable iter X.env y = pure y := by intro _; rfl) :
    PS X (.Assign [.Name y py] (.ListComp elt [⟨tg, iter, ifs, 0⟩] scope pos) spos) (tAsg (tLcN x (iList X.K tl) g tt te (own.map (·.2))) (gName i)) := by
  refine ⟨fun pins s σ H D I h => ?_⟩
  rw [exec_Assign_Name_used _ _ _ _ hsw]
  refine wpAny_bind (wpAny_standAt (wpAny_bind ?_))
  show wpAny _ X.A (do let _ ← comprehension (.ListComp elt [⟨tg, iter, ifs, 0⟩] scope pos) scope X.env (firstIterPos [⟨tg, iter, ifs, 0⟩] pos) (newList []) false (eval iter X.env) (some (assign (.Name y py) X.env))) _ _ s
  refine wpAny_bind (thn (lc_hot (Q := fun v G => gName i v σ G D.nx) (Qf := fun _ z => SP X pins D .next z) ea hN I hl ok hg ht he hs h fun L C z m G Y q hn f => ?_) fun _ z hq => wpAny_pure (wpAny_pure hq))
  obtain ⟨f0, f1, f2, f3, f4, f5⟩ := f
  show wpAny _ _ (assign (.Name y py) X.env (.ref L)) _ _ _
  refine wpAny_assign_Name (store_ok2 (v := V.ref L) Y hN hy (.inl hyl) rfl (fun u Y2 ⟨b, sb, hb⟩ => ?_) (.inr hyl))
  have ne : C ≠ b := by
    cases hb with
    | inl k => rw [k]; exact f1
    | inr k => exact fun e => f4 y b k e.symm
  exact ⟨m, hn.sameBut sb ne, fun h3 k3 => ⟨_, G, Y2.turned (t' := u.toks) (fun c o hc e => (k3.2 c hc).trans e) f0 f1 f3 f4 f5, q⟩⟩
end
section
variable {L : Lg} {σ : L2.St} {Q : VK} {x C : Addr} {d : Option Addr}
theorem t_hot {G : Hp → Prop} (m : (x, exF x C d) ∈ L) (k : Tr L G) : Tr L fun H => Hot x H ∧ G H := fun H l => ⟨⟨C, d, l.has _ m⟩, k H l⟩
theorem t_tupN {K : PySem.W.Frag} {n : Nat} {t : TGs} {v : V} {Qn : SS → Hp → Prop} (m : (x, exF x C d) ∈ L) (k : Tr L fun H => gTup K n t v σ H Qn) : Tr L fun H => gTupN x K n t v σ H Qn := t_hot m k
theorem t_lcN {wi : TI} {g : TG} {tt : TT} {te : TE} {vs : List Nat} (k : Tr L fun H => tLc wi g tt te vs σ H fun v H1 => Hot x H1 ∧ Q v H1) : Tr L fun H => tLcN x wi g tt te vs σ H Q := k
end
/-! ### x is not True, x any simple value -/
def isBlV (b : Bool) : V → Bool
  | .bl a => decide (a = b)
  | _ => false
def simV : V → Bool
  | .int _ => true
  | .str _ => true
  | .bl _ => true
  | .non => true
  | .ref _ => true
  | _ => false
def rNotBV : R2 := fun x y H Q => ∃ b, y = .bl b ∧ simV x = true ∧ Q (.bl (!isBlV b x)) H
theorem op_notBV {X : Cx} : OpR X (compareOp .IsNot) rNotBV := by
  intro pins s σ H x y v u Q I rx ry h
  obtain ⟨b, rfl, hs, q⟩ := h
  cases (show u = Value.bool b from ry)
  cases x with
  | bl a =>
    cases (show v = Value.bool a from rx)
    by_cases e : a = b
    · subst e
      exact wpAny_isNot_self rfl ⟨.bl false, H, I, rfl, by simpa [isBlV] using q⟩
    · exact wpAny_isNot_other rfl (fun z => e (Value.bool.inj z)) ⟨.bl true, H, I, rfl, by simpa [isBlV, e] using q⟩
  | int i =>
    obtain ⟨t, rfl⟩ := rx
    exact wpAny_isNot_other rfl (fun z => nomatch z) ⟨.bl true, H, I, rfl, q⟩
  | str z =>
    obtain ⟨t, rfl⟩ := rx
    exact wpAny_isNot_other rfl (fun z => nomatch z) ⟨.bl true, H, I, rfl, q⟩
  | non =>
    cases (show v = Value.none from rx)
    exact wpAny_isNot_other rfl (fun z => nomatch z) ⟨.bl true, H, I, rfl, q⟩
  | ref a =>
    cases (show v = Value.ref a from rx)
    exact wpAny_isNot_other rfl (fun z => nomatch z) ⟨.bl true, H, I, rfl, q⟩
  | _ => cases hs
theorem t_notBV {L : Lg} {Q : VK} {x : V} {b : Bool} (hs : simV x = true) (k : Tr L fun H => Q (.bl (!isBlV b x)) H) : Tr L fun H => rNotBV x (.bl b) H Q := fun H l => ⟨b, rfl, hs, k H l⟩
end Hz

namespace Hz
open PySem PySem.Spec PyProof.Rows L2 RZ
def topS (i : Nat) : Stmt := PySem.Challenge.pw_stickyheads_k19_invalid_arguments_of_vie.main.body.getD i (.Pass ⟨0, 0, 0, 0⟩)
abbrev s_is_integer : Stmt := topS 22
theorem sc_is_integer : FnScope ["value"] ["value"] (defScope s_is_integer) := ⟨rfl, rfl, rfl, by decide +kernel, rfl, by decide +kernel, by decide +kernel⟩
abbrev s_is_outline : Stmt := topS 23
theorem sc_is_outline : FnScope ["value", "before", "depth"] ["value"] (defScope s_is_outline) := ⟨rfl, rfl, rfl, by decide +kernel, rfl, by decide +kernel, by decide +kernel⟩
abbrev s_check_outline : Stmt := topS 24
theorem sc_check_outline : FnScope ["outline"] ["outline"] (defScope s_check_outline) := ⟨rfl, rfl, rfl, by decide +kernel, rfl, by decide +kernel, by decide +kernel⟩
abbrev s_check_line : Stmt := topS 25
theorem sc_check_line : FnScope ["outline", "line"] ["outline", "line"] (defScope s_check_line) := ⟨rfl, rfl, rfl, by decide +kernel, rfl, by decide +kernel, by decide +kernel⟩
abbrev s_headings_of : Stmt := topS 26
theorem sc_headings_of : FnScope ["outline", "line", "found", "depth", "other"] ["outline", "line"] (defScope s_headings_of) := ⟨rfl, rfl, rfl, by decide +kernel, rfl, by decide +kernel, by decide +kernel⟩
abbrev s_check_height : Stmt := topS 29
theorem sc_check_height : FnScope ["height"] ["height"] (defScope s_check_height) := ⟨rfl, rfl, rfl, by decide +kernel, rfl, by decide +kernel, by decide +kernel⟩
abbrev s_last_scroll : Stmt := topS 30
theorem sc_last_scroll : FnScope ["outline"] ["outline"] (defScope s_last_scroll) := ⟨rfl, rfl, rfl, by decide +kernel, rfl, by decide +kernel, by decide +kernel⟩
abbrev s_check_scroll : Stmt := topS 31
theorem sc_check_scroll : FnScope ["outline", "scroll"] ["outline", "scroll"] (defScope s_check_scroll) := ⟨rfl, rfl, rfl, by decide +kernel, rfl, by decide +kernel, by decide +kernel⟩
abbrev s_top_of : Stmt := topS 32
theorem sc_top_of : FnScope ["outline", "scroll", "line", "depth"] ["outline", "scroll"] (defScope s_top_of) := ⟨rfl, rfl, rfl, by decide +kernel, rfl, by decide +kernel, by decide +kernel⟩
abbrev s_view_of : Stmt := topS 33
theorem sc_view_of : FnScope ["outline", "height", "scroll", "top", "found", "pushed"] ["outline", "height", "scroll"] (defScope s_view_of) := ⟨rfl, rfl, rfl, by decide +kernel, rfl, by decide +kernel, by decide +kernel⟩
abbrev s_shown_of : Stmt := topS 34
theorem sc_shown_of : FnScope ["outline", "height", "scroll", "top", "end"] ["outline", "height", "scroll"] (defScope s_shown_of) := ⟨rfl, rfl, rfl, by decide +kernel, rfl, by decide +kernel, by decide +kernel⟩
abbrev s_interval_for : Stmt := topS 35
theorem sc_interval_for : FnScope ["outline", "height", "line", "least", "greatest"] ["outline", "height", "line"] (defScope s_interval_for) := ⟨rfl, rfl, rfl, by decide +kernel, rfl, by decide +kernel, by decide +kernel⟩
abbrev s_nearest_for : Stmt := topS 36
theorem sc_nearest_for : FnScope ["outline", "height", "scroll", "line", "interval"] ["outline", "height", "scroll", "line"] (defScope s_nearest_for) := ⟨rfl, rfl, rfl, by decide +kernel, rfl, by decide +kernel, by decide +kernel⟩
abbrev s_check_arguments : Stmt := topS 37
theorem sc_check_arguments : FnScope ["outline", "height", "scroll"] ["outline", "height", "scroll"] (defScope s_check_arguments) := ⟨rfl, rfl, rfl, by decide +kernel, rfl, by decide +kernel, by decide +kernel⟩
abbrev s_top_line : Stmt := topS 38
theorem sc_top_line : FnScope ["outline", "scroll"] ["outline", "scroll"] (defScope s_top_line) := ⟨rfl, rfl, rfl, by decide +kernel, rfl, by decide +kernel, by decide +kernel⟩
abbrev s_view : Stmt := topS 39
theorem sc_view : FnScope ["outline", "height", "scroll"] ["outline", "height", "scroll"] (defScope s_view) := ⟨rfl, rfl, rfl, by decide +kernel, rfl, by decide +kernel, by decide +kernel⟩
abbrev s_shown_lines : Stmt := topS 40
theorem sc_shown_lines : FnScope ["outline", "height", "scroll"] ["outline", "height", "scroll"] (defScope s_shown_lines) := ⟨rfl, rfl, rfl, by decide +kernel, rfl, by decide +kernel, by decide +kernel⟩
abbrev s_scrolls_for : Stmt := topS 41
theorem sc_scrolls_for : FnScope ["outline", "height", "line"] ["outline", "height", "line"] (defScope s_scrolls_for) := ⟨rfl, rfl, rfl, by decide +kernel, rfl, by decide +kernel, by decide +kernel⟩
abbrev s_scroll_to_show : Stmt := topS 42
theorem sc_scroll_to_show : FnScope ["outline", "height", "scroll", "line", "nearest"] ["outline", "height", "scroll", "line"] (defScope s_scroll_to_show) := ⟨rfl, rfl, rfl, by decide +kernel, rfl, by decide +kernel, by decide +kernel⟩
abbrev s_scrolls_for_both : Stmt := topS 43
theorem sc_scrolls_for_both : FnScope ["outline", "height", "line", "other", "first", "second", "least", "greatest"] ["outline", "height", "line", "other"] (defScope s_scrolls_for_both) := ⟨rfl, rfl, rfl, by decide +kernel, rfl, by decide +kernel, by decide +kernel⟩
abbrev s_law_source : Stmt := topS 45
theorem sc_law_source : FnScope ["cell", "index"] ["cell", "index"] (defScope s_law_source) := ⟨rfl, rfl, rfl, by decide +kernel, rfl, by decide +kernel, by decide +kernel⟩
abbrev s_law_draw : Stmt := topS 46
theorem sc_law_draw : FnScope ["source", "count", "digit"] ["source", "count"] (defScope s_law_draw) := ⟨rfl, rfl, rfl, by decide +kernel, rfl, by decide +kernel, by decide +kernel⟩
abbrev s_law_cells : Stmt := topS 47
theorem sc_law_cells : FnScope ["script", "count"] ["script", "count"] (defScope s_law_cells) := ⟨rfl, rfl, rfl, by decide +kernel, rfl, by decide +kernel, by decide +kernel⟩
abbrev s_law_outline : Stmt := topS 48
theorem sc_law_outline : FnScope ["source", "script", "most", "size", "style", "made", "k", "top", "some", "rising"] ["source", "script", "most"] (defScope s_law_outline) := ⟨rfl, rfl, rfl, by decide +kernel, rfl, by decide +kernel, by decide +kernel⟩
abbrev s_law_rows : Stmt := topS 49
theorem sc_law_rows : FnScope ["source", "script", "size", "some"] ["source", "script", "size"] (defScope s_law_rows) := ⟨rfl, rfl, rfl, by decide +kernel, rfl, by decide +kernel, by decide +kernel⟩
abbrev s_law_headings : Stmt := topS 50
theorem sc_law_headings : FnScope ["made", "at", "found", "need", "spot"] ["made", "at"] (defScope s_law_headings) := ⟨rfl, rfl, rfl, by decide +kernel, rfl, by decide +kernel, by decide +kernel⟩
abbrev s_law_top : Stmt := topS 51
theorem sc_law_top : FnScope ["made", "place", "at"] ["made", "place"] (defScope s_law_top) := ⟨rfl, rfl, rfl, by decide +kernel, rfl, by decide +kernel, by decide +kernel⟩
abbrev s_law_view : Stmt := topS 52
theorem sc_law_view : FnScope ["made", "rows", "place", "top", "found", "missing", "pushed"] ["made", "rows", "place"] (defScope s_law_view) := ⟨rfl, rfl, rfl, by decide +kernel, rfl, by decide +kernel, by decide +kernel⟩
abbrev s_law_last : Stmt := topS 53
theorem sc_law_last : FnScope ["made"] ["made"] (defScope s_law_last) := ⟨rfl, rfl, rfl, by decide +kernel, rfl, by decide +kernel, by decide +kernel⟩
abbrev s_law_error_name : Stmt := topS 54
theorem sc_law_error_name : FnScope ["caught", "pairs", "names", "name", "is_one", "odd"] ["caught"] (defScope s_law_error_name) := ⟨rfl, rfl, rfl, by decide +kernel, rfl, by decide +kernel, by decide +kernel⟩
abbrev s_law_not_an_outline : Stmt := topS 55
theorem sc_law_not_an_outline : FnScope ["source", "made", "at", "odd", "some"] ["source", "made"] (defScope s_law_not_an_outline) := ⟨rfl, rfl, rfl, by decide +kernel, rfl, by decide +kernel, by decide +kernel⟩
abbrev s_law_raised : Stmt := topS 56
theorem sc_law_raised : FnScope ["door", "given", "raised", "made", "rows", "place", "at", "to", "e"] ["door", "given"] (defScope s_law_raised) := ⟨rfl, rfl, rfl, by decide +kernel, rfl, by decide +kernel, by decide +kernel⟩
abbrev s_law_due : Stmt := topS 57
theorem sc_law_due : FnScope ["door", "wrong", "good", "used", "names", "spot", "made", "rows", "place", "at", "to"] ["door", "wrong", "good"] (defScope s_law_due) := ⟨rfl, rfl, rfl, by decide +kernel, rfl, by decide +kernel, by decide +kernel⟩
abbrev s_law_holds : Stmt := topS 58
theorem sc_law_holds : FnScope ["source", "script", "made", "rows", "good", "odd", "bad", "spot", "wrong", "given", "kept", "door"] ["source", "script"] (defScope s_law_holds) := ⟨rfl, rfl, rfl, by decide +kernel, rfl, by decide +kernel, by decide +kernel⟩
abbrev s_law : Stmt := topS 59
theorem sc_law : FnScope ["script", "k", "cell", "source", "turn"] ["script"] (defScope s_law) := ⟨rfl, rfl, rfl, by decide +kernel, rfl, by decide +kernel, by decide +kernel⟩
/-! the steps -/
local macro_rules | `(tactic| walk_at "pk") => `(tactic| first | exact Pick.head | (apply Pick.tail; walk_at "pk") | (apply Pick.app; walk_at "pk") | assumption)
local macro_rules | `(tactic| walk_at "mb") => `(tactic| first | assumption | exact List.mem_cons_self | (apply List.mem_cons_of_mem; walk_at "mb") | (apply List.mem_append_right; walk_at "mb") | (exact Pick.mem (by assumption)))
local macro_rules | `(tactic| walk_at "sa") => `(tactic| first | exact SetAt.zero | (apply SetAt.succ; walk_at "sa"))
local macro_rules | `(tactic| walk_at "ga") => `(tactic| first | exact GetAt.zero | (apply GetAt.succ; walk_at "ga"))
local macro_rules | `(tactic| walk_at "sb") => `(tactic| first | exact Sub.refl | ((fail_if_success apply Sub.take); first | (apply Sub.keep; walk_at "sb") | (apply Sub.drop; walk_at "sb") | (apply Sub.app; walk_at "sb")) | (apply Sub.take; (walk_at "pk"); (walk_at "sb")))
local macro_rules | `(tactic| walk_at "pre") => `(tactic| first | exact Pre.nil | (apply Pre.cons; walk_at "pre") | (apply Pre.app; walk_at "pre"))
local macro_rules | `(tactic| walk_at "ty") => `(tactic| first | assumption | exact HasTy.non | exact HasTy.bl _ | exact HasTy.int _ | exact HasTy.str _ | (apply HasTy.lst; walk_at "mb") | (apply HasTy.tup; walk_at "mb") | (apply HasTy.dct; walk_at "mb"))
local macro_rules | `(tactic| walk_at "hx") => `(tactic| first
  | ((with_reducible refine' t_is ?ty ?mem ?_); (case ty => walk_at "ty"); (case mem => decide)))
local macro_rules | `(tactic| walk_at "sz") => `(tactic| first | (with_unfolding_all decide) | (rw [sizeLine_eq]; omega) | (simp only [sizeLine_eq, List.length_append, List.length_map, List.length_cons, List.length_nil, List.length_replicate, List.length_take, List.length_drop, List.length_reverse]; omega))
local macro_rules | `(tactic| walk_at "hz") => `(tactic| first
  | (with_reducible refine t_seq ?_)
  | (with_reducible refine t_asg ?_)
  | (with_reducible refine t_whBT ?_) | (with_reducible refine t_whBF ?_) | (with_reducible refine t_nxP ?_) | (with_reducible refine t_nxW ?_) | (with_reducible refine t_ctP ?_) | (with_reducible refine t_ctW ?_)
  | ((with_reducible refine' t_varA ?ga ?_); (case ga => walk_at "ga"))
  | (with_reducible refine t_c ?_)
  | ((with_reducible refine' t_name ?sa ?_); (case sa => walk_at "sa"))
  | (with_reducible refine t_op ?_)
  | (with_reducible refine t_rI0 ?_)
  | (with_reducible refine t_rU ?_)
  | (with_reducible refine t_eqI ?_)
  | (with_reducible refine t_neI ?_)
  | (with_reducible refine t_cons ?_)
  | (with_reducible refine t_nil ?_)
  | ((with_reducible refine t_dnewK ?_); intro)
  | (with_reducible refine t_callS ?_) | (with_reducible refine t_callGK ?_)
  | (with_reducible refine t_CB ?_)
  | (with_reducible refine t_if ?_)
  | (with_reducible refine t_test ?_)
  | (with_reducible refine t_bl ?_)
  | (with_reducible refine t_iteT ?_)
  | (with_reducible refine t_iteF ?_)
  | (with_reducible refine t_lst ?_)
  | (with_reducible refine t_tup ?_)
  | ((with_reducible refine t_newL ?sz ?_); (case sz => walk_at "sz"); intro)
  | ((with_reducible refine t_newT ?sz ?_); (case sz => walk_at "sz"); intro)
  | (with_reducible refine t_un ?_)
  | (with_reducible refine t_B ?_)
  | (with_reducible refine t_and ?_)
  | (with_reducible refine t_or ?_)
  | (with_reducible refine t_not ?_)
  | (with_reducible refine t_andV ?_)
  | (with_reducible refine t_orV ?_)
  | (with_reducible refine t_notV ?_)
  | (with_reducible refine t_ifE ?_)
  | (with_reducible refine t_chain ?_)
  | (with_reducible refine t_ret ?_)
  | (with_reducible refine t_retN ?_)
  | (with_reducible refine t_drop ?_)
  | (with_reducible refine t_for ?_)
  | (with_reducible refine t_lc ?_)
  | (with_reducible refine t_next ?_)
  | (with_reducible refine t_BM ?_)
  | (with_reducible refine t_BM0 ?_)
  | ((with_reducible refine' t_tyL ?pk ?_); (case pk => walk_at "pk"))
  | (with_reducible refine t_tyS ?_)
  | ((with_reducible refine' t_ixI ?pk ?sd ?sd2 ?_); (case pk => walk_at "pk"); (case sd => omega); (case sd2 => omega))
  | ((with_reducible refine' t_ixL ?pk ?at_ ?_); (case pk => walk_at "pk"); (case at_ => walk_at "at"))
  | ((with_reducible refine' t_ixT ?pk ?at_ ?_); (case pk => walk_at "pk"); (case at_ => walk_at "at"))
  | ((with_reducible refine' t_appI ?pk ?sz ?_); (case pk => walk_at "pk"); (case sz => walk_at "sz"))
  | ((with_reducible refine' t_append ?pk ?sz ?_); (case pk => walk_at "pk"); (case sz => walk_at "sz"))
  | ((with_reducible refine' t_reverse ?pk ?_); (case pk => walk_at "pk"))
  | ((with_reducible refine' t_extend ?pk ?pk2 ?sz ?_); (case pk => walk_at "pk"); (case pk2 => walk_at "pk"); (case sz => walk_at "sz"))
  | (with_reducible refine t_slice ?_)
  | (with_reducible refine t_noPart ?_)
  | (with_reducible refine t_part ?_)
  | (with_reducible refine t_int ?_)
  | ((with_reducible refine' t_slI ?pk ?_); (case pk => walk_at "pk"); intro)
  | ((with_reducible refine' t_slL ?pk ?_); (case pk => walk_at "pk"); intro)
  | ((with_reducible refine' t_catI ?pk ?pk2 ?sz ?_); (case pk => walk_at "pk"); (case pk2 => walk_at "pk"); (case sz => walk_at "sz"); intro)
  | ((with_reducible refine' t_cat ?pk ?pk2 ?sz ?_); (case pk => walk_at "pk"); (case pk2 => walk_at "pk"); (case sz => walk_at "sz"); intro)
  | ((with_reducible refine' t_augA ?ga ?_); (case ga => walk_at "ga"))
  | (with_reducible refine t_ipI ?_)
  | (with_reducible refine t_par ?_)
  | (with_reducible refine t_two ?_)
  | (with_reducible refine t_sub ?_) | (with_reducible refine t_gSl ?_)
  | ((with_reducible refine' t_setAll ?pk ?pk2 ?sz ?_); (case pk => walk_at "pk"); (case pk2 => walk_at "pk"); (case sz => walk_at "sz"))
  | ((with_reducible refine' t_tupG ?pk ?n ?_); (case pk => walk_at "pk"); (case n => rfl))
  | ((with_reducible refine' t_lstG ?pk ?n ?_); (case pk => walk_at "pk"); (case n => rfl))
  | (with_reducible refine t_consG ?_)
  | (with_reducible refine t_nilG ?_)
  | (with_reducible refine t_isN ?_)
  | (with_reducible refine t_notN ?_)
  | (with_reducible refine t_eqB ?_)
  | (with_reducible refine t_eqS ?_)
  | (with_reducible refine t_neB ?_)
  | (with_reducible refine t_neS ?_)
  | (with_reducible refine t_iL ?_) | (with_reducible refine t_iT ?_) | (with_reducible refine t_iR1 ?_) | (with_reducible refine t_iR2 ?_) | (with_reducible refine t_iR3 ?_)
  | (with_reducible refine t_iZA ?_) | (with_reducible refine t_iE ?_) | (with_reducible refine t_iZ ?_) | (with_reducible refine t_iS ?_)
  | ((with_reducible refine' t_itL ?pk ?_); (case pk => walk_at "pk"))
  | ((with_reducible refine' t_itT ?pk ?_); (case pk => walk_at "pk"))
  | ((with_reducible refine' t_itE ?pk ?_); (case pk => walk_at "pk"))
  | ((with_reducible refine' t_itZ ?pk ?pk2 ?_); (case pk => walk_at "pk"); (case pk2 => walk_at "pk"))
  | ((with_reducible refine' t_itZL ?pk ?pk2 ?_); (case pk => walk_at "pk"); (case pk2 => walk_at "pk"))
  | (with_reducible refine t_itS ?_)
  | ((with_reducible refine t_wiped ?w ?_); (case w => rfl))
  | (with_reducible refine t_yes ?_)
  | ((with_reducible refine' t_rep ?pk ?sd ?sd2 ?sz ?_); (case pk => walk_at "pk"); (case sd => decide); (case sd2 => decide); (case sz => walk_at "sz"); intro)
  | ((with_reducible refine' t_lenI ?pk ?_); (case pk => walk_at "pk"))
  | ((with_reducible refine' t_lenL ?pk ?_); (case pk => walk_at "pk"))
  | ((with_reducible refine' t_lenT ?pk ?_); (case pk => walk_at "pk"))
  | ((with_reducible refine t_rI ?sd ?_); (case sd => walk_at "sd"))
  | (with_reducible refine t_max2 ?_) | (with_reducible refine t_min2 ?_)
  | (with_reducible refine t_intI ?_) | (with_reducible refine t_intB ?_)
  | ((with_reducible refine t_itR1 ?sd ?sd2 ?_); (case sd => walk_at "sd"); (case sd2 => walk_at "sd"))
  | ((with_reducible refine t_itR2 ?sd ?_); (case sd => walk_at "sd"))
  | (with_reducible refine t_lstRg ?_) | (with_reducible refine t_rg1 ?_) | (with_reducible refine t_rg2 ?_) | (with_reducible refine t_int2 ?_)
  | ((with_reducible refine t_rgI ?sd ?_); (case sd => walk_at "sd"); intro)
  | ((with_reducible refine t_newRg ?sd ?_); (case sd => walk_at "sd"); intro)
  | (with_reducible refine t_revL ?_)
  | ((with_reducible refine' t_revI ?pk ?_); (case pk => walk_at "pk"); intro)
  | ((with_reducible refine' t_newRev ?pk ?_); (case pk => walk_at "pk"); intro)
  | (with_reducible refine t_isB ?_) | (with_reducible refine t_notB ?_)
  | ((with_reducible refine' t_listL ?pk ?_); (case pk => walk_at "pk"); intro)
  | ((with_reducible refine' t_listT ?pk ?_); (case pk => walk_at "pk"); intro)
  | ((with_reducible refine' t_tupleL ?pk ?_); (case pk => walk_at "pk"); intro)
  | ((with_reducible refine' t_inI ?pk ?_); (case pk => walk_at "pk"))
  | ((with_reducible refine' t_notInI ?pk ?_); (case pk => walk_at "pk"))
  | ((with_reducible refine t_ifT ?h ?_); (case h => first | decide | rfl))
  | ((with_reducible refine t_ifF ?h ?_); (case h => first | decide | rfl))
  | (with_reducible refine t_sortSet ?_) | (with_reducible refine t_lenSetV ?_)
  | (with_reducible refine t_ifR ?_) | (with_reducible refine t_ifNR ?_)
  | ((with_reducible refine t_ifDT ?h ?_); (case h => omega)) | ((with_reducible refine t_ifDF ?h ?_); (case h => omega))
  | ((with_reducible refine t_ifNT ?h ?_); (case h => omega)) | ((with_reducible refine t_ifNF ?h ?_); (case h => omega)))
local macro_rules | `(tactic| walk_at "sd") => `(tactic| first | omega | assumption | (exact .inl (by omega)) | (exact .inr (.inl (by omega))) | (refine And.intro ?_ ?_ <;> omega) | decide | (exact ⟨by omega, by omega, by omega, by omega⟩) | (exact RgOk.of_le (by omega) (by omega) (by omega) (by omega)))
local macro_rules | `(tactic| walk_at "at") => `(tactic| first | rfl | exact atI_nat (by assumption) | exact atI_nat rfl)
local macro_rules | `(tactic| walk_at "hz") => `(tactic| first
  | (with_reducible refine t_dc ?_) | (with_reducible refine t_din ?_) | (with_reducible refine t_dnin ?_) | (with_reducible refine t_dix ?_) | (with_reducible refine t_dg1 ?_) | (with_reducible refine t_dput ?_)
  | ((with_reducible refine' t_isDk ?pk ?_); (case pk => walk_at "pk"))
  | ((with_reducible refine' t_dinK ?pk ?_); (case pk => walk_at "pk"))
  | ((with_reducible refine' t_dninK ?pk ?_); (case pk => walk_at "pk"))
  | ((with_reducible refine' t_dgetK ?pk ?_); (case pk => walk_at "pk"))
  | ((with_reducible refine' t_dputK ?pk ?sz ?_); (case pk => walk_at "pk"); (case sz => walk_at "sz"))
  | ((with_reducible refine t_dnewT ?_); intro))
local macro_rules | `(tactic| walk_at "er") => `(tactic| first | assumption | (refine' Er.two ?m1 ?m2; (case m1 => walk_at "mb"); (case m2 => walk_at "mb")) | (refine' Er.one ?m1; (case m1 => walk_at "mb")))
local macro_rules | `(tactic| walk_at "ka") => `(tactic| first
  | exact kitAny_nil
  | (refine' kitAny_cons ?e ?f ?g; (case e => with_reducible assumption); (case g => exact fun z => nomatch z); (case f => intro _; walk_at "ka"))
  | (refine' kitAny_cons ?e ?f ?g; (case e => with_reducible assumption); (case f => exact fun z => nomatch z); (case g => exact fun _ => rfl)))
local macro_rules | `(tactic| walk_at "hz") => `(tactic| first
  | ((with_reducible refine' t_isE ?er ?T ?e ?_); (case er => walk_at "er"); (case T => assumption); (case e => with_reducible assumption))
  | ((with_reducible refine' t_isEB ?er ?T ?e ?_); (case er => walk_at "er"); (case T => assumption); (case e => with_reducible assumption))
  | ((with_reducible refine' t_isET ?er ?T ?pk ?c ?e ?_); (case er => walk_at "er"); (case T => assumption); (case pk => walk_at "pk"); (case c => rfl); (case e => simp only [List.map, clsOf]; walk_at "ka"))
  | (with_reducible refine t_exA0 ?_)
  | ((with_reducible refine' t_exA ?pk ?pk2 ?T ?no ?lk ?_); (case pk => walk_at "pk"); (case pk2 => walk_at "pk"); (case T => assumption); (case no => with_reducible assumption); (case lk => rfl))
  | (with_reducible refine t_rz ?_) | (with_reducible refine t_err ?_)
  | ((with_reducible refine t_rErr ?_); intro)
  | ((with_reducible refine t_reprInt ?sd ?sd2 ?_); (case sd => omega); (case sd2 => omega))
  | ((with_reducible refine t_strI ?h ?_); (case h => exact str_ok (by omega) (by omega)))
  | ((with_reducible refine' t_gone ?w ?_); (case w => rfl)) | (with_reducible refine t_goneR ?_)
  | (with_reducible refine t_callV ?_))
local macro_rules | `(tactic| walk_at "hz") => `(tactic| first
  | (with_reducible refine t_callN ?_) | (with_reducible refine t_rCallN ?_)
  | ((with_reducible refine' t_tupN ?mb ?_); (case mb => walk_at "mb"))
  | (with_reducible refine t_lcN ?_)
  | ((with_reducible refine' t_hot ?mb ?_); (case mb => walk_at "mb")))
section
variable {P : Program} {w : World} {K : PySem.W.Frag} {mg : Str → Option Value} {base : Heap}
/-! ### is_integer, is_outline, check_outline -/
def isInt : V → Bool
  | .int _ => true
  | _ => false
def chainV : Int → List V → Bool
  | _, [] => true
  | b, .int d :: r => decide (0 ≤ d) && decide (d ≤ b + 1) && chainV d r
  | _, _ :: _ => false
/-- the list is an outline -/
def outV (xs : List V) : Bool := decide (1 ≤ xs.length) && decide (xs.length ≤ 200) && chainV (-1) xs
def sp_is_integer : Sp := fun vs H Q _ => ∃ (x : V) (T : String) (L : Lg), vs = [x] ∧ Led H L ∧ HasTy L x T ∧ Tr L (fun H => Q (.bl (isInt x)) H)
theorem use_is_integer {L : Lg} {Q : VK} {E : XK} {x : V} {T : String} (h : HasTy L x T) (k : Tr L fun H => Q (.bl (isInt x)) H) : Tr L fun H => sp_is_integer [x] H Q E := fun H l => ⟨x, T, L, rfl, l, h, k⟩
theorem isInt_isB {L : Lg} {x : V} {T : String} (h : HasTy L x T) : (isB T "int" && !isB T "bool") = isInt x := by cases h <;> rfl
theorem ok_is_integer (D : Df K mg "is_integer" s_is_integer) (B : Blt mg) : Ok P w K mg base CX0 1 "is_integer" ["value"] sp_is_integer := by
  obtain ⟨f, fd, hm, F⟩ := D
  refine ⟨f, fd, hm, F.kp, F.binds (fun _ _ _ _ _ _ us hl => match us, hl with | [_], _ => rfl), FunOkG F sc_is_integer (fun vs H Q E h => ?_) (fun cdv A outer s H vs Q E hr h => ?_), F.lk⟩
  · obtain ⟨x, T, L, rfl, _⟩ := h; rfl
  · obtain ⟨x, T, L, rfl, l, ht, q⟩ := h
    refine ⟨_, PSs.nox (pss_one (ps_ret (pe_and (pe_callB c_is rfl B.isinstance_ boot_isinstance (pa_cons (pv 0) (pa_cons (pe_ty B.int_ boot_int) pa_nil))) (pe_one (pe_not (pe_callB c_is rfl B.isinstance_ boot_isinstance (pa_cons (pv 0) (pa_cons (pe_ty B.bool_ boot_bool) pa_nil)))))))), ?_⟩
    rw [show L2.start ["value"] [x] = [some x] from rfl]
    refine Tr.of (L := L) ?_ l
    repeat walk_at "hz"
    refine t_is ht (by decide) ?_
    repeat walk_at "hz"
    have e := isInt_isB ht
    refine t_ite (fun h1 => ?_) fun h1 => ?_
    · repeat walk_at "hz"
      refine t_is ht (by decide) ?_
      repeat walk_at "hz"
      rw [h1, Bool.true_and] at e
      rw [e]
      exact q
    · repeat walk_at "hz"
      rw [h1, Bool.false_and] at e
      rw [e]
      exact q
/-- what is_outline answers -/
def OutIs (L : Lg) (x : V) (b : Bool) : Prop := (∃ a xs, x = .ref a ∧ (a, .lst xs) ∈ L ∧ (∀ y ∈ xs, ∃ T, HasTy L y T) ∧ b = outV xs) ∨ (∃ T, HasTy L x T ∧ T ≠ "list" ∧ b = false)
def sp_is_outline : Sp := fun vs H Q _ => ∃ (x : V) (b : Bool) (L : Lg), vs = [x] ∧ Led H L ∧ OutIs L x b ∧ Tr L (fun H => Q (.bl b) H)
theorem use_is_outline {L : Lg} {Q : VK} {E : XK} {x : V} {b : Bool} (h : OutIs L x b) (k : Tr L fun H => Q (.bl b) H) : Tr L fun H => sp_is_outline [x] H Q E := fun H l => ⟨x, b, L, rfl, l, h, k⟩
theorem chainV_not {b : Int} {v : V} {r : List V} (h : isInt v = false) : chainV b (v :: r) = false := by
  cases v <;> first | rfl | cases h
theorem drop_cons {α : Type} {xs : List α} {i : Nat} {v : α} (h : xs[i]? = some v) : xs.drop i = v :: xs.drop (i + 1) := by
  obtain ⟨h1, h2⟩ := List.getElem?_eq_some_iff.mp h
  rw [List.drop_eq_getElem_cons h1, h2]
theorem isB_list {T : String} (h : T ∈ tyNames) (n : T ≠ "list") : isB T "list" = false := by
  unfold isB
  simp [n]
theorem ok_is_outline (D : Df K mg "is_outline" s_is_outline) (B : Blt mg) (g_MAX_LINES : GV mg "MAX_LINES" (.int 200)) (k_is_integer : Ok P w K mg base CX0 1 "is_integer" ["value"] sp_is_integer) :
    Ok P w K mg base CX0 2 "is_outline" ["value"] sp_is_outline := by
  obtain ⟨f, fd, hm, F⟩ := D
  refine ⟨f, fd, hm, F.kp, F.binds (fun _ _ _ _ _ _ us hl => match us, hl with | [_], _ => rfl), FunOkG F sc_is_outline (fun vs H Q E h => ?_) (fun cdv A outer s H vs Q E hr h => ?_), F.lk⟩
  · obtain ⟨x, T, L, rfl, _⟩ := h; rfl
  · obtain ⟨x, b, L, rfl, l, ho, q⟩ := h
    refine ⟨_, PSs.nox (pss_cons (ps_if (PW.pt (pw_or (pt_not (pt_val (pe_callB c_is rfl B.isinstance_ boot_isinstance (pa_cons (pv 0) (pa_cons (pe_ty B.list_ boot_list) pa_nil))))) (pw_or1 (pt_not (pt_chain op_le op_le pe_int (pe_callB c_len rfl B.len_ boot_len (pa_cons (pv 0) pa_nil)) (pe_gv g_MAX_LINES)))))) (pss_one (ps_ret pe_bl))
        pss_nil)
      (pss_cons (ps_set (i := 1) sc_is_outline.nd rfl (.inl rfl) (pe_un un_neg pe_int))
      (pss_cons (ps_for PassesOwn.never rfl (pi_list (pv 0)) (pg_name (i := 2) sc_is_outline.nd rfl (.inl rfl))
        (pss_cons (ps_if (PW.pt (pw_or (pt_not (pt_val (pe_callG k_is_integer (hr.mono (by omega)) pas0 (pa_cons (pv 2) pa_nil)))) (pw_or1 (pt_not (pt_chain op_le op_le pe_int (pv 2) (pe_op op_add (pv 1) pe_int)))))) (pss_one (ps_ret pe_bl))
        pss_nil)
      (pss_one (ps_set (i := 1) sc_is_outline.nd rfl (.inl rfl) (pv 2)))))
      (pss_one (ps_ret pe_bl))))), ?_⟩
    rw [show L2.start ["value", "before", "depth"] [x] = [some x, none, none] from rfl]
    refine Tr.of (L := L) ?_ l
    repeat walk_at "hz"
    rcases ho with ⟨a, xs, rfl, hm, hty, rfl⟩ | ⟨T, ht, hn, rfl⟩
    · refine t_is (.lst hm) (by decide) ?_
      obtain ⟨R, hp⟩ := Pick.of_mem hm
      repeat walk_at "hz"
      refine t_iteD (fun h1 => ?_) fun h1 => ?_
      · repeat walk_at "hz"
        refine t_iteND (fun h2 => ?_) fun h2 => ?_
        · repeat walk_at "hz"
          rw [show outV xs = false by unfold outV; rw [show decide (xs.length ≤ 200) = false from decide_eq_false (by omega), Bool.and_false, Bool.false_and]] at q
          exact q
        · repeat walk_at "hz"
          refine t_forK wk_list (fun i y => [some (.ref a), some (.int y.1), y.2]) (fun _ _ => L) (fun i y => chainV (-1) xs = chainV y.1 (xs.drop i)) ⟨((-1 : Int), none), rfl, rfl, .refl⟩ (fun _ _ _ => ⟨R, hp⟩) ?_ ?_
          · rintro i ⟨b, d⟩ v L' hi hc ⟨hv, rfl⟩
            dsimp only at hc ⊢
            rw [drop_cons hv] at hc
            obtain ⟨T, ht⟩ := hty v (List.mem_of_getElem? hv)
            show Tr L _
            repeat walk_at "hz"
            refine use_is_integer ht ?_
            repeat walk_at "hz"
            refine t_ite (fun h3 => ?_) fun h3 => ?_
            · repeat walk_at "hz"
              rw [show outV xs = false by unfold outV; rw [hc, chainV_not (by simpa using h3), Bool.and_false]] at q
              exact q
            · have h4 : isInt v = true := by simpa using h3
              obtain ⟨m, rfl⟩ : ∃ m, v = .int m := by
                cases v <;> first | exact ⟨_, rfl⟩ | cases h4
              repeat walk_at "hz"
              refine t_iteD (fun h5 => ?_) fun h5 => ?_
              · repeat walk_at "hz"
                refine t_iteND (fun h6 => ?_) fun h6 => ?_
                · repeat walk_at "hz"
                  rw [show outV xs = false by unfold outV; rw [hc, chainV, decide_eq_false h6, Bool.and_false, Bool.false_and, Bool.and_false]] at q
                  exact q
                · repeat walk_at "hz"
                  refine t_pst (m, some (V.int m)) ?_ (by rfl) (by walk_at "sb")
                  rw [hc, chainV, decide_eq_true h5, decide_eq_true h6]; rfl
              · repeat walk_at "hz"
                rw [show outV xs = false by unfold outV; rw [hc, chainV, decide_eq_false h5, Bool.false_and, Bool.false_and, Bool.and_false]] at q
                exact q
          · rintro ⟨b, d⟩ hc
            repeat walk_at "hz"
            rw [List.drop_length] at hc
            rw [show outV xs = true by unfold outV; rw [hc, decide_eq_true (by omega), decide_eq_true (by omega)]; rfl] at q
            exact q
      · repeat walk_at "hz"
        rw [show outV xs = false by unfold outV; rw [show decide (1 ≤ xs.length) = false from decide_eq_false (by omega), Bool.false_and, Bool.false_and]] at q
        exact q
    · refine t_is ht (by decide) ?_
      rw [isB_list ht.name hn]
      repeat walk_at "hz"
      exact q
theorem chainV_ints : ∀ (b : Int) (ns : List Int), chainV b (ns.map V.int) = true ↔ chainI b ns
  | _, [] => by simp [chainV, chainI]
  | b, d :: r => by
    show (decide (0 ≤ d) && decide (d ≤ b + 1) && chainV d (r.map V.int)) = true ↔ (0 ≤ d ∧ d ≤ b + 1 ∧ chainI d r)
    rw [Bool.and_eq_true, Bool.and_eq_true, chainV_ints d r, decide_eq_true_eq, decide_eq_true_eq, and_assoc]
/-- the depths of an outline -/
def Outline (ns : List Int) : Prop := outV (ns.map V.int) = true
theorem outline_iff {ns : List Int} : Outline ns ↔ 1 ≤ ns.length ∧ ns.length ≤ 200 ∧ chainI (-1) ns := by
  unfold Outline outV
  rw [List.length_map, Bool.and_eq_true, Bool.and_eq_true, chainV_ints, decide_eq_true_eq, decide_eq_true_eq, and_assoc]
theorem Outline.chain {ns : List Int} (h : Outline ns) : chainI (-1) ns := (outline_iff.mp h).2.2
theorem Outline.len {ns : List Int} (h : Outline ns) : 1 ≤ ns.length ∧ ns.length ≤ 200 := ⟨(outline_iff.mp h).1, (outline_iff.mp h).2.1⟩
theorem Outline.bound {ns : List Int} (h : Outline ns) {i : Nat} {d : Int} (e : ns[i]? = some d) : 0 ≤ d ∧ d ≤ i := by
  have := chainI_bounds _ _ h.chain i d e
  omega
theorem Outline.small {ns : List Int} (h : Outline ns) : ∀ n ∈ ns, n.natAbs < 2 ^ 1000 := fun n hn => by
  obtain ⟨i, e⟩ := List.mem_iff_getElem?.mp hn
  have b := h.bound e
  have l := (List.getElem?_eq_some_iff.mp e).1
  have := h.len.2
  have z : (200 : Nat) < 2 ^ 1000 := by decide
  omega

/-! ### check_outline, raising; stops_of, stops -/
theorem outIs_ints {L : Lg} {a : Addr} {ns : List Int} (hm : (a, .lst (ns.map V.int)) ∈ L) : OutIs L (.ref a) (outV (ns.map V.int)) :=
  .inl ⟨a, _, rfl, hm, fun y hy => by obtain ⟨n, _, rfl⟩ := List.mem_map.mp hy; exact ⟨_, .int n⟩, rfl⟩
def sp_check_outline (C_InvalidOutlineError : Addr) : Sp := fun vs H Q E => ∃ (x : V) (b : Bool) (L : Lg), vs = [x] ∧ Led H (L) ∧ (OutIs L x b) ∧ ((b = true) → (Tr (L) (fun H => Q (.non) H))) ∧ ((b = false) → Tr (L) (fun H => E (.ref C_InvalidOutlineError) none H))
theorem use_check_outline {L : Lg} {Q : VK} {E : XK} {x : V} {b : Bool} (ho : OutIs L x b) (q : (b = true) → (Tr (L) (fun H => Q (.non) H))) (x0 : (b = false) → Tr (L) (fun H => E (.ref C_InvalidOutlineError) none H)) : Tr L fun H => sp_check_outline C_InvalidOutlineError [x] H Q E :=
  fun H l => ⟨x, b, L, rfl, l, ho, q, x0⟩

theorem ok_check_outline {C_InvalidOutlineError : Addr} (D : Df K mg "check_outline" s_check_outline) (B : Blt mg) (X_InvalidOutlineError : ExcC K mg "InvalidOutlineError" C_InvalidOutlineError) (k_is_outline : Ok P w K mg base CX0 2 "is_outline" ["value"] sp_is_outline) : Ok P w K mg base (L2N.CX P w) 3 "check_outline" ["outline"] (sp_check_outline C_InvalidOutlineError) := by
  obtain ⟨f, fd, hm, F⟩ := D
  refine ⟨f, fd, hm, F.kp, F.binds (fun _ _ _ _ _ _ us hl => match us, hl with | [_], _ => rfl), FunOkG F sc_check_outline (fun vs H Q E h => ?_) (fun cdv A outer s H vs Q E hr h => ?_), F.lk⟩
  · obtain ⟨_, _, _, rfl, _⟩ := h; rfl
  obtain ⟨x, b, L, rfl, l, ho, q, x0⟩ := h
  refine ⟨_, (pss_one (ps_if (pt_not (pt_val (pe_callG k_is_outline (hr.mono (by omega)) pas0 (pa_cons (pv 0) pa_nil)))) (pss_one (L2N.ps_raise rfl (L2N.takes_of rfl rfl rfl rfl) (pe_mk X_InvalidOutlineError)))
        pss_nil)), ?_⟩
  rw [show L2.start ["outline"] [x] = [some x] from rfl]
  refine Tr.of ?_ l
  repeat walk_at "hz"
  refine use_is_outline ho ?_
  repeat walk_at "hz"
  cases b with
  | true =>
    refine t_ifF rfl ?_
    repeat walk_at "hz"
    exact q rfl
  | false =>
    refine t_ifT rfl ?_
    repeat walk_at "hz"
    exact x0 rfl
/-- line minus depth -/
def stopsFrom : Int → List Int → List Int
  | _, [] => []
  | k, d :: r => (k - d) :: stopsFrom (k + 1) r
def stopsI (ns : List Int) : List Int := stopsFrom 0 ns
theorem stopsFrom_len : ∀ (k : Int) (ns : List Int), (stopsFrom k ns).length = ns.length
  | _, [] => rfl
  | k, d :: r => by rw [stopsFrom, List.length_cons, List.length_cons, stopsFrom_len]
theorem stopsFrom_get : ∀ (k : Int) (ns : List Int) (i : Nat) (d : Int), ns[i]? = some d → (stopsFrom k ns)[i]? = some (k + i - d)
  | k, d :: r, 0, e, h => by
    cases h
    show some (k - d) = some (k + ((0 : Nat) : Int) - d)
    congr 1; omega
  | k, d :: r, i + 1, e, h => by
    show (stopsFrom (k + 1) r)[i]? = _
    rw [stopsFrom_get (k + 1) r i e (by simpa using h)]
    congr 1; omega
theorem map_get {α β : Type} {f : α → β} {xs : List α} {i : Nat} {y : β} (h : (xs.map f)[i]? = some y) : ∃ x, xs[i]? = some x ∧ y = f x := by
  rw [List.getElem?_map] at h
  cases e : xs[i]? with
  | none => rw [e] at h; cases h
  | some x => rw [e] at h; cases h; exact ⟨x, rfl, rfl⟩
theorem get_map {α β : Type} (f : α → β) {xs : List α} {i : Nat} {x : α} (h : xs[i]? = some x) : (xs.map f)[i]? = some (f x) := by rw [List.getElem?_map, h]; rfl

/-! ### headings, by the ints -/
def hbk (f : Int → Int) : Nat → Int → List Int
  | 0, _ => []
  | k + 1, d => if f (k : Nat) < d then ((k : Nat) : Int) :: hbk f k (f (k : Nat)) else hbk f k d
/-- the last place below k where f is e -/
def lastW (f : Int → Int) (e : Int) : Nat → Int
  | 0 => -1
  | k + 1 => if f (k : Nat) = e then ((k : Nat) : Int) else lastW f e k
structure Stp (f : Int → Int) (n : Nat) : Prop where
  zero : f 0 = 0
  nn : ∀ i : Nat, i < n → 0 ≤ f i
  up : ∀ i : Nat, i + 1 < n → f ((i + 1 : Nat) : Int) ≤ f i + 1
theorem hbk_eq {f : Int → Int} {n : Nat} (S : Stp f n) : ∀ (k : Nat) (d : Int), k ≤ n → 0 ≤ d → (k = 0 → d = 0) → (∀ j : Nat, k = j + 1 → d ≤ f j + 1) →
    hbk f k d = ((List.range d.toNat).map fun e => lastW f (e : Nat) k).reverse
  | 0, d, _, _, h0, _ => by rw [h0 rfl]; rfl
  | k + 1, d, hk, hd, _, h1 => by
    have b := h1 k rfl
    have nn := S.nn k (by omega)
    have up : ∀ j : Nat, k = j + 1 → f k ≤ f j + 1 := fun j e => by subst e; exact S.up j (by omega)
    have z : k = 0 → f k = 0 := fun e => by subst e; exact S.zero
    unfold hbk
    by_cases h : f k < d
    · rw [if_pos h, hbk_eq S k (f k) (by omega) nn z up]
      obtain rfl : d = f k + 1 := by omega
      rw [show (f k + 1).toNat = (f k).toNat + 1 by omega, List.range_succ, List.map_append, List.reverse_append]
      congr 1
      · simp only [List.map_cons, List.map_nil, List.reverse_cons, List.reverse_nil, List.nil_append, List.cons.injEq, and_true]
        unfold lastW
        rw [if_pos (by omega)]
      · congr 1
        refine List.map_congr_left fun e he => ?_
        have := List.mem_range.mp he
        rw [show lastW f e (k + 1) = lastW f e k by rw [lastW, if_neg (by omega)]]
    · rw [if_neg h, hbk_eq S k d (by omega) hd (fun e => by have := z e; omega) fun j e => by have := up j e; omega]
      congr 1
      refine List.map_congr_left fun e he => ?_
      have := List.mem_range.mp he
      rw [show lastW f e (k + 1) = lastW f e k by rw [lastW, if_neg (by omega)]]
theorem hbk_len (f : Int → Int) : ∀ (k : Nat) (d : Int), (hbk f k d).length ≤ k
  | 0, _ => Nat.le_refl 0
  | k + 1, d => by
    unfold hbk
    split
    · have := hbk_len f k (f k)
      rw [List.length_cons]; omega
    · have := hbk_len f k d
      omega
/-- the headings of the line i -/
def hdI (ns : List Int) (i : Int) : List Int := (hbk (atD ns) i.toNat (atD ns i)).reverse
theorem hdI_len (ns : List Int) (i : Int) : (hdI ns i).length ≤ i.toNat := by unfold hdI; rw [List.length_reverse]; exact hbk_len _ _ _
theorem chainI_stp : ∀ (b : Int) (ns : List Int), chainI b ns → ∀ i : Nat, i + 1 < ns.length → atD ns ((i + 1 : Nat) : Int) ≤ atD ns (i : Nat) + 1
  | b, d :: e :: r, h, 0, _ => by
    show e ≤ d + 1
    exact h.2.2.2.1
  | b, d :: r, h, i + 1, hi => by
    have := chainI_stp d r h.2.2 i (by simpa using hi)
    exact this
theorem Outline.at {ns : List Int} (h : Outline ns) {i : Int} (h0 : 0 ≤ i) (h1 : i < ns.length) : 0 ≤ atD ns i ∧ atD ns i ≤ i := by
  have := h.bound (atD_get h0 h1)
  omega
theorem Outline.stp {ns : List Int} (h : Outline ns) : Stp (atD ns) ns.length where
  zero := by have := h.at (i := 0) (by omega) (by have := h.len; omega); omega
  nn := fun i hi => (h.at (i := (i : Nat)) (by omega) (by omega)).1
  up := chainI_stp _ _ h.chain
theorem hdI_eq {ns : List Int} (h : Outline ns) {i : Int} (h0 : 0 ≤ i) (h1 : i < ns.length) : hdI ns i = (List.range (atD ns i).toNat).map fun e => lastW (atD ns) (e : Nat) i.toNat := by
  have a := h.at h0 h1
  have S := h.stp
  unfold hdI
  rw [hbk_eq S i.toNat (atD ns i) (by omega) a.1 (fun e => by omega) fun j e => by
    have := S.up j (by omega)
    rw [← e, Int.toNat_of_nonneg h0] at this
    exact this]
  rw [List.reverse_reverse]
/-! ### the last line of a section -/
structure SecEnd (f : Int → Int) (n : Int) (p e : Int) : Prop where
  lo : p ≤ e
  hi : e < n
  deep : ∀ k, p < k → k ≤ e → f p < f k
  stop : e + 1 < n → f (e + 1) ≤ f p
theorem SecEnd.uniq {f : Int → Int} {n p e e' : Int} (h : SecEnd f n p e) (h' : SecEnd f n p e') : e = e' := by
  have key : ∀ {e e' : Int}, SecEnd f n p e → SecEnd f n p e' → ¬ e < e' := fun {e e'} h h' lt => by
    have a := h.stop (by have := h'.hi; omega)
    have b := h'.deep (e + 1) (by have := h.lo; omega) (by omega)
    omega
  have a := key h h'
  have b := key h' h
  omega
/-- the children between the line and the end of its section -/
def chI (ns : List Int) (p e : Int) : List Int := (rgI (p + 1) (e + 1)).filter fun k => decide (atD ns k = atD ns p + 1)
theorem fl_rg (f : Int → Bool) (a b : Int) : fl (fun i => f (a + (i : Nat))) (fun i => a + (i : Nat)) (b - a).toNat = (rgI a b).filter f := by
  unfold fl rgI
  rw [List.filter_map]
  rfl

/-- the least line that stands at or behind the scroll -/
structure TopIs (f : Int → Int) (n s t : Int) : Prop where
  lo : 0 ≤ t
  hi : t < n
  ok : s ≤ t - f t
  least : ∀ k, 0 ≤ k → k < t → k - f k < s
theorem TopIs.uniq {f : Int → Int} {n s t t' : Int} (h : TopIs f n s t) (h' : TopIs f n s t') : t = t' := by
  have a := h.least t' h'.lo
  have b := h'.least t h.lo
  have := h.ok
  have := h'.ok
  omega
theorem Stp.stops {f : Int → Int} {n : Nat} (S : Stp f n) : ∀ (k i : Nat), i + k < n → (i : Int) - f i ≤ ((i + k : Nat) : Int) - f ((i + k : Nat) : Int)
  | 0, _, _ => Int.le_refl _
  | k + 1, i, h => by
    have := S.stops k i (by omega)
    have := S.up (i + k) (by omega)
    rw [show ((i + (k + 1) : Nat) : Int) = ((i + k + 1 : Nat) : Int) by omega]
    omega
theorem Outline.mono {ns : List Int} (h : Outline ns) {i j : Int} (h0 : 0 ≤ i) (h1 : i ≤ j) (h2 : j < ns.length) : i - atD ns i ≤ j - atD ns j := by
  have := h.stp.stops (j - i).toNat i.toNat (by omega)
  rw [show ((i.toNat + (j - i).toNat : Nat) : Int) = j by omega, Int.toNat_of_nonneg h0] at this
  exact this
theorem topIs_iff {ns : List Int} (h : Outline ns) {s t : Int} (h0 : 0 ≤ t) : TopIs (atD ns) ns.length s t ↔ t < ns.length ∧ s ≤ t - atD ns t ∧ (0 < t → t - 1 - atD ns (t - 1) < s) := by
  constructor
  · intro x
    exact ⟨x.hi, x.ok, fun p => x.least (t - 1) (by omega) (by omega)⟩
  · rintro ⟨a, b, c⟩
    refine ⟨h0, a, b, fun k k0 k1 => ?_⟩
    have := h.mono k0 (show k ≤ t - 1 by omega) (by omega)
    have := c (by omega)
    omega
theorem atD_last {ns : List Int} (h : 1 ≤ ns.length) : atD ns ((ns.length : Int) - 1) = lastD (-1) ns := by
  have := at_lastD (-1) h
  have e := atI_nat (α := V) (xs := ns.map V.int) (j := ns.length - 1) (v := .int (lastD (-1) ns)) (by have := last_get (-1) h; rwa [List.length_map] at this)
  have e2 := atD_at (ns := ns) (i := (ns.length : Int) - 1) (by omega) (by omega)
  rw [show ((ns.length - 1 : Nat) : Int) = (ns.length : Int) - 1 by omega] at e
  rw [e] at e2
  exact (V.int.inj (Option.some.inj e2)).symm
theorem Outline.top {ns : List Int} (h : Outline ns) {s : Int} (hs : s ≤ ns.length - 1 - lastD (-1) ns) : ∃ k : Int, 0 ≤ k ∧ k < ns.length ∧ s ≤ k - atD ns k :=
  ⟨ns.length - 1, by have := h.len; omega, by omega, by rw [atD_last h.len.1]; exact hs⟩
/-- is the top line at the scroll position this one -/
noncomputable def topB (f : Int → Int) (n : Int) (p : Int × Int) : Bool := @decide (TopIs f n p.1 p.2) (Classical.propDecidable _)
theorem topB_iff {f : Int → Int} {n : Int} {p : Int × Int} : topB f n p = true ↔ TopIs f n p.1 p.2 := by
  unfold topB
  exact @decide_eq_true_iff _ (Classical.propDecidable _)
theorem topB_eq {f : Int → Int} {n : Int} {p : Int × Int} {r : Bool} (h : r = true ↔ TopIs f n p.1 p.2) : r = topB f n p := by
  rw [Bool.eq_iff_iff, h, topB_iff]

/-! ### outlines by data -/
def vD : PyData → V
  | .int i => .int i
  | _ => .non
/-- is it an outline -/
def outD : PyData → Bool
  | .list ds => outV (ds.map vD)
  | _ => false
theorem chainV_vD {L : Lg} : ∀ {xs : List V} {ds : List PyData} (b : Int), DvAll L xs ds → chainV b xs = chainV b (ds.map vD)
  | _, _, _, .nil => rfl
  | _, _, b, .cons h r => by
    cases h with
    | int i => show (decide (0 ≤ i) && decide (i ≤ b + 1) && chainV i _) = (decide (0 ≤ i) && decide (i ≤ b + 1) && chainV i _); rw [chainV_vD i r]
    | _ => rfl
theorem outV_vD {L : Lg} {xs : List V} {ds : List PyData} (h : DvAll L xs ds) : outV xs = outV (ds.map vD) := by
  unfold outV
  rw [chainV_vD (-1) h, List.length_map, h.len]
theorem Dv.outIs {L : Lg} {x : V} {d : PyData} (h : Dv L x d) : OutIs L x (outD d) := by
  cases h with
  | lst m r =>
    refine .inl ⟨_, _, rfl, m, fun y hy => ?_, (outV_vD r).symm⟩
    obtain ⟨i, hi⟩ := List.mem_iff_getElem?.mp hy
    obtain ⟨d, _, hd⟩ := r.get hi
    exact ⟨_, hd.ty⟩
  | non => exact .inr ⟨_, .non, by decide, rfl⟩
  | bl b => exact .inr ⟨_, .bl b, by decide, rfl⟩
  | int i => exact .inr ⟨_, .int i, by decide, rfl⟩
  | str z => exact .inr ⟨_, .str z, by decide, rfl⟩
  | tup m _ => exact .inr ⟨_, .tup m, by decide, rfl⟩
  | dct m => exact .inr ⟨_, .dct m, by decide, rfl⟩
theorem map_vD_ints (ns : List Int) : (ns.map PyData.int).map vD = ns.map V.int := by rw [List.map_map]; rfl
theorem outD_ints (ns : List Int) : outD (.list (ns.map PyData.int)) = outV (ns.map V.int) := by
  show outV ((ns.map PyData.int).map vD) = _
  rw [map_vD_ints]
theorem chainV_app : ∀ (b : Int) (ns : List Int) (ys : List V), chainV b (ns.map V.int ++ ys) = (chainV b (ns.map V.int) && chainV (lastD b ns) ys)
  | b, [], ys => by simp [chainV, lastD]
  | b, d :: r, ys => by
    show (decide (0 ≤ d) && decide (d ≤ b + 1) && chainV d (r.map V.int ++ ys)) = ((decide (0 ≤ d) && decide (d ≤ b + 1) && chainV d (r.map V.int)) && chainV (lastD d r) ys)
    rw [chainV_app d r ys]
    simp [Bool.and_assoc]
theorem not_chain {b : Int} {d : PyData} {ys : List V} (h : ∀ i, d = .int i → i < 0 ∨ b + 1 < i) : chainV b (vD d :: ys) = false := by
  cases d with
  | int i =>
    show (decide (0 ≤ i) && decide (i ≤ b + 1) && chainV i ys) = false
    rcases h i rfl with h | h
    · rw [decide_eq_false (by omega : ¬ 0 ≤ i)]; rfl
    · rw [decide_eq_false (by omega : ¬ i ≤ b + 1), Bool.and_false]; rfl
  | _ => rfl
/-- one item is wrong -/
theorem not_outD {ns : List Int} {d : PyData} {es : List PyData} (h : ∀ i, d = .int i → i < 0 ∨ lastD (-1) ns + 1 < i) : outD (.list (ns.map PyData.int ++ d :: es)) = false := by
  show outV ((ns.map PyData.int ++ d :: es).map vD) = false
  unfold outV
  rw [List.map_append, map_vD_ints, List.map_cons, chainV_app, not_chain h, Bool.and_false, Bool.and_false]

/-! ### check_line, headings_of, headings, section, children -/
/-- is it the number of a line -/
def rgV (n : Int) : V → Bool
  | .int i => decide (0 ≤ i) && decide (i < n)
  | _ => false
theorem rgV_int (n i : Int) : rgV n (.int i) = (decide (0 ≤ i) && decide (i < n)) := rfl
theorem rgV_not {n : Int} {x : V} (h : isInt x = false) : rgV n x = false := by cases x <;> first | rfl | cases h
def sp_check_line (C_InvalidLineError : Addr) : Sp := fun vs H Q E => ∃ (a : Addr) (ns : List Int) (x : V) (T : String) (L : Lg), vs = [.ref a, x] ∧ Led H (L) ∧ ((a, .lst (ns.map V.int)) ∈ L) ∧ (HasTy L x T) ∧ ((rgV ns.length x = true) → (Tr (L) (fun H => Q (.non) H))) ∧ ((rgV ns.length x = false) → Tr (L) (fun H => E (.ref C_InvalidLineError) none H))
theorem use_check_line {L : Lg} {Q : VK} {E : XK} {a : Addr} {ns : List Int} {x : V} {T : String} (hm : (a, .lst (ns.map V.int)) ∈ L) (ht : HasTy L x T) (q : (rgV ns.length x = true) → (Tr (L) (fun H => Q (.non) H))) (x0 : (rgV ns.length x = false) → Tr (L) (fun H => E (.ref C_InvalidLineError) none H)) : Tr L fun H => sp_check_line C_InvalidLineError [.ref a, x] H Q E :=
  fun H l => ⟨a, ns, x, T, L, rfl, l, hm, ht, q, x0⟩

theorem ok_check_line {C_InvalidLineError : Addr} (D : Df K mg "check_line" s_check_line) (B : Blt mg) (X_InvalidLineError : ExcC K mg "InvalidLineError" C_InvalidLineError) (k_is_integer : Ok P w K mg base CX0 1 "is_integer" ["value"] sp_is_integer) : Ok P w K mg base (L2N.CX P w) 2 "check_line" ["outline", "line"] (sp_check_line C_InvalidLineError) := by
  obtain ⟨f, fd, hm, F⟩ := D
  refine ⟨f, fd, hm, F.kp, F.binds (fun _ _ _ _ _ _ us hl => match us, hl with | [_, _], _ => rfl), FunOkG F sc_check_line (fun vs H Q E h => ?_) (fun cdv A outer s H vs Q E hr h => ?_), F.lk⟩
  · obtain ⟨_, _, _, _, _, rfl, _⟩ := h; rfl
  obtain ⟨a, ns, x, T, L, rfl, l, hm, ht, q, x0⟩ := h
  refine ⟨_, (pss_one (ps_if (PW.pt (pw_or (pt_not (pt_val (pe_callG k_is_integer (hr.mono (by omega)) pas0 (pa_cons (pv 1) pa_nil)))) (pw_or1 (pt_not (pt_chain op_le op_lt pe_int (pv 1) (pe_callB c_len rfl B.len_ boot_len (pa_cons (pv 0) pa_nil))))))) (pss_one (L2N.ps_raise rfl (L2N.takes_of rfl rfl rfl rfl) (pe_mk X_InvalidLineError)))
        pss_nil)), ?_⟩
  rw [show L2.start ["outline", "line"] [.ref a, x] = [some (.ref a), some x] from rfl]
  refine Tr.of ?_ l
  obtain ⟨R_hm, P_hm⟩ := Pick.of_mem hm
  repeat walk_at "hz"
  refine use_is_integer ht ?_
  repeat walk_at "hz"
  by_cases c : isInt x = true
  · obtain ⟨n, rfl⟩ : ∃ n, x = .int n := by cases x <;> first | exact ⟨_, rfl⟩ | cases c
    repeat walk_at "hz"
    refine t_iteD (fun h1 => ?_) fun h1 => ?_
    · repeat walk_at "hz"
      refine t_iteND (fun h2 => ?_) fun h2 => ?_
      · repeat walk_at "hz"
        exact x0 (by rw [rgV_int, decide_eq_false h2, Bool.and_false])
      · repeat walk_at "hz"
        exact q (by rw [rgV_int, decide_eq_true h1, decide_eq_true h2]; rfl)
    · repeat walk_at "hz"
      exact x0 (by rw [rgV_int, decide_eq_false h1, Bool.false_and])
  · have c2 : isInt x = false := by simpa using c
    rw [c2]
    repeat walk_at "hz"
    exact x0 (rgV_not c2)
/-- is it a height -/
def htV : V → Bool
  | .int i => decide (1 ≤ i) && decide (i ≤ 400)
  | _ => false
theorem htV_int (i : Int) : htV (.int i) = (decide (1 ≤ i) && decide (i ≤ 400)) := rfl
theorem htV_not {x : V} (h : isInt x = false) : htV x = false := by cases x <;> first | rfl | cases h
def sp_check_height (C_InvalidHeightError : Addr) : Sp := fun vs H Q E => ∃ (x : V) (T : String) (L : Lg), vs = [x] ∧ Led H (L) ∧ (HasTy L x T) ∧ ((htV x = true) → (Tr (L) (fun H => Q (.non) H))) ∧ ((htV x = false) → Tr (L) (fun H => E (.ref C_InvalidHeightError) none H))
theorem use_check_height {L : Lg} {Q : VK} {E : XK} {x : V} {T : String} (ht : HasTy L x T) (q : (htV x = true) → (Tr (L) (fun H => Q (.non) H))) (x0 : (htV x = false) → Tr (L) (fun H => E (.ref C_InvalidHeightError) none H)) : Tr L fun H => sp_check_height C_InvalidHeightError [x] H Q E :=
  fun H l => ⟨x, T, L, rfl, l, ht, q, x0⟩

theorem ok_check_height {C_InvalidHeightError : Addr} (D : Df K mg "check_height" s_check_height) (B : Blt mg) (X_InvalidHeightError : ExcC K mg "InvalidHeightError" C_InvalidHeightError) (g_MOST_ROWS : GV mg "MOST_ROWS" (.int 400)) (k_is_integer : Ok P w K mg base CX0 1 "is_integer" ["value"] sp_is_integer) : Ok P w K mg base (L2N.CX P w) 2 "check_height" ["height"] (sp_check_height C_InvalidHeightError) := by
  obtain ⟨f, fd, hm, F⟩ := D
  refine ⟨f, fd, hm, F.kp, F.binds (fun _ _ _ _ _ _ us hl => match us, hl with | [_], _ => rfl), FunOkG F sc_check_height (fun vs H Q E h => ?_) (fun cdv A outer s H vs Q E hr h => ?_), F.lk⟩
  · obtain ⟨_, _, _, rfl, _⟩ := h; rfl
  obtain ⟨x, T, L, rfl, l, ht, q, x0⟩ := h
  refine ⟨_, (pss_one (ps_if (PW.pt (pw_or (pt_not (pt_val (pe_callG k_is_integer (hr.mono (by omega)) pas0 (pa_cons (pv 0) pa_nil)))) (pw_or1 (pt_not (pt_chain op_le op_le pe_int (pv 0) (pe_gv g_MOST_ROWS)))))) (pss_one (L2N.ps_raise rfl (L2N.takes_of rfl rfl rfl rfl) (pe_mk X_InvalidHeightError)))
        pss_nil)), ?_⟩
  rw [show L2.start ["height"] [x] = [some x] from rfl]
  refine Tr.of ?_ l
  repeat walk_at "hz"
  refine use_is_integer ht ?_
  repeat walk_at "hz"
  by_cases c : isInt x = true
  · obtain ⟨n, rfl⟩ : ∃ n, x = .int n := by cases x <;> first | exact ⟨_, rfl⟩ | cases c
    repeat walk_at "hz"
    refine t_iteD (fun h1 => ?_) fun h1 => ?_
    · repeat walk_at "hz"
      refine t_iteND (fun h2 => ?_) fun h2 => ?_
      · repeat walk_at "hz"
        exact x0 (by rw [htV_int, decide_eq_false h2, Bool.and_false])
      · repeat walk_at "hz"
        exact q (by rw [htV_int, decide_eq_true h1, decide_eq_true h2]; rfl)
    · repeat walk_at "hz"
      exact x0 (by rw [htV_int, decide_eq_false h1, Bool.false_and])
  · have c2 : isInt x = false := by simpa using c
    rw [c2]
    repeat walk_at "hz"
    exact x0 (htV_not c2)
def sp_headings_of  : Sp := fun vs H Q E => ∃ (a : Addr) (ns : List Int) (i : Int) (L : Lg), vs = [.ref a, .int i] ∧ Led H (L) ∧ ((a, .lst (ns.map V.int)) ∈ L) ∧ (0 ≤ i) ∧ (i < ns.length) ∧ (ns.length ≤ 1000) ∧ ∀ (p : Addr), Tr ((p, .lst ((hdI ns i).map V.int)) :: L) (fun H => Q (.ref p) H)
theorem use_headings_of {L : Lg} {Q : VK} {E : XK} {a : Addr} {ns : List Int} {i : Int} (hm : (a, .lst (ns.map V.int)) ∈ L) (h0 : 0 ≤ i) (h1 : i < ns.length) (hz : ns.length ≤ 1000) (q : ∀ (p : Addr), Tr ((p, .lst ((hdI ns i).map V.int)) :: L) (fun H => Q (.ref p) H)) : Tr L fun H => sp_headings_of [.ref a, .int i] H Q E :=
  fun H l => ⟨a, ns, i, L, rfl, l, hm, h0, h1, hz, q⟩

theorem ok_headings_of (D : Df K mg "headings_of" s_headings_of) (B : Blt mg) : Ok P w K mg base CX0 1 "headings_of" ["outline", "line"] sp_headings_of := by
  obtain ⟨f, fd, hm, F⟩ := D
  refine ⟨f, fd, hm, F.kp, F.binds (fun _ _ _ _ _ _ us hl => match us, hl with | [_, _], _ => rfl), FunOkG F sc_headings_of (fun vs H Q E h => ?_) (fun cdv A outer s H vs Q E hr h => ?_), F.lk⟩
  · obtain ⟨_, _, _, _, rfl, _⟩ := h; rfl
  obtain ⟨a, ns, i, L, rfl, l, hm, h0, h1, hz, q⟩ := h
  refine ⟨_, PSs.nox (pss_cons (ps_set (i := 2) sc_headings_of.nd rfl (.inl rfl) (pe_lst pa_nil))
      (pss_cons (ps_set (i := 3) sc_headings_of.nd rfl (.inl rfl) (pe_ix ix_list (pv 0) (pv 1) (fun _ _ => rfl)))
      (pss_cons (ps_for PassesOwn.never rfl (pi_range3 rfl B.range_ (pa_cons (pe_op op_sub (pv 1) pe_int) (pa_cons (pe_un un_neg pe_int) (pa_cons (pe_un un_neg pe_int) pa_nil)))) (pg_name (i := 4) sc_headings_of.nd rfl (.inl rfl))
        (pss_one (ps_if (pt_cmpR op_lt (pe_ix ix_list (pv 0) (pv 4) (fun _ _ => rfl)) (pv 3) (nomark _)) (pss_cons (ps_set (i := 3) sc_headings_of.nd rfl (.inl rfl) (pe_ix ix_list (pv 0) (pv 4) (fun _ _ => rfl)))
      (pss_one (ps_expr (pe_bm PySem.F.plainAttrs_list PySem.F.slot_list_append PySem.F.type_list_append mt_append (pv 2) (pa_cons (pv 4) pa_nil)))))
        pss_nil)))
      (pss_one (ps_ret (pe_revL (pv 2))))))), ?_⟩
  rw [show L2.start ["outline", "line", "found", "depth", "other"] [.ref a, .int i] = [some (.ref a), some (.int i), none, none, none] from rfl]
  refine Tr.of ?_ l
  obtain ⟨R_hm, P_hm⟩ := Pick.of_mem hm
  repeat walk_at "hz"
  obtain ⟨R, hp⟩ := Pick.of_mem hm
  repeat walk_at "hz"
  rename_i p
  refine t_itR3 (n := i.toNat) (by have := RgC.neg (i := i - 1) (j := -1) (by omega) (by omega) (by omega) (by omega); rwa [show (i - 1 - -1).toNat = i.toNat by omega] at this) ?_
  refine t_forK wk_range3 (fun t ((acc, d, j4) : (List Int) × Int × Option V) => [some (.ref a), some (.int i), some (.ref p), some (.int d), j4]) (fun t ((acc, d, j4) : (List Int) × Int × Option V) => (p, .lst (acc.map V.int)) :: L) (fun t ((acc, d, j4) : (List Int) × Int × Option V) => acc.length ≤ t ∧ acc ++ hbk (atD ns) (i.toNat - t) d = hbk (atD ns) i.toNat (atD ns i)) ⟨([], atD ns i, _), ⟨by simp, by simp⟩, rfl, (by walk_at "sb")⟩ (fun _ _ _ => trivial) ?_ ?_
  · rintro t ⟨acc, d, j4⟩ v L' ht ⟨hl, he⟩ ⟨rfl, rfl⟩
    dsimp only at hl he ⊢
    rw [List.nil_append]
    obtain ⟨k, ek⟩ : ∃ k, i.toNat - t = k + 1 := ⟨i.toNat - t - 1, by omega⟩
    rw [ek, hbk] at he
    have e1 : i - 1 + (t : Int) * -1 = (k : Nat) := by omega
    rw [e1]
    repeat walk_at "hz"
    refine t_iteD (fun h2 => ?_) fun h2 => ?_
    · repeat walk_at "hz"
      refine t_pst (acc ++ [(k : Int)], atD ns (k : Nat), _) ⟨(by (try dsimp only); (try simp only [List.length_append, List.length_cons, List.length_nil, List.length_map, List.length_singleton]); omega), ?_⟩ rfl (by walk_at "sb")
      rw [if_pos h2] at he
      rw [List.append_assoc, show i.toNat - (t + 1) = k by omega]
      exact he
    · repeat walk_at "hz"
      refine t_pst (acc, d, _) ⟨(by (try dsimp only); (try simp only [List.length_append, List.length_cons, List.length_nil, List.length_map, List.length_singleton]); omega), ?_⟩ rfl (by walk_at "sb")
      rw [if_neg h2] at he
      rw [show i.toNat - (t + 1) = k by omega]
      exact he
  · rintro ⟨acc, d, j4⟩ ⟨hl, he⟩
    dsimp only at hl he ⊢
    rw [Nat.sub_self, hbk, List.append_nil] at he
    repeat walk_at "hz"
    rw [show hdI ns i = acc.reverse by unfold hdI; rw [← he]] at q
    exact (q _).sub (by walk_at "sb")
theorem first_fl {α : Type} (b : Nat → Bool) (o : Nat → α) : ∀ n : Nat, ∃ j, j ≤ n ∧ (∀ i, i < j → b i = false) ∧ ((j = n ∧ fl b o n = []) ∨ (j < n ∧ b j = true ∧ ∃ r, fl b o n = o j :: r))
  | 0 => ⟨0, Nat.le_refl _, fun i h => absurd h (Nat.not_lt_zero i), .inl ⟨rfl, rfl⟩⟩
  | n + 1 => by
    obtain ⟨j, h1, h2, h3⟩ := first_fl b o n
    rcases h3 with ⟨rfl, h4⟩ | ⟨h3, h4, r, h5⟩
    · cases h : b j with
      | true => exact ⟨j, by omega, h2, .inr ⟨by omega, h, [], by rw [fl_succ, if_pos h, h4]; rfl⟩⟩
      | false =>
        refine ⟨j + 1, Nat.le_refl _, fun i hi => ?_, .inl ⟨rfl, by rw [fl_succ, if_neg (by rw [h]; decide), h4]⟩⟩
        by_cases e : i = j
        · rw [e]; exact h
        · exact h2 i (by omega)
    · refine ⟨j, by omega, h2, .inr ⟨by omega, h4, ?_⟩⟩
      rw [fl_succ, h5]
      split
      · exact ⟨_, rfl⟩
      · exact ⟨_, rfl⟩
/-! ### views, by the ints -/
/-- headings and pushed headings, when t is the top line at s -/
def vwH (ns : List Int) (s t : Int) : List Int :=
  if 0 < t - atD ns t - s then hdI ns t ++ cutI (hdI ns (t - 1)) (some (-(t - atD ns t - s))) none else hdI ns t
/-- a view of h rows -/
def vwI (ns : List Int) (h s t : Int) : List Int := cutI (vwH ns s t ++ rgI t ns.length) none (some h)
theorem vwI_take {ns : List Int} {h s t : Int} (h0 : 0 ≤ h) : vwI ns h s t = (vwH ns s t ++ rgI t ns.length).take h.toNat := by
  unfold vwI; rw [cutI_upto h0]
theorem cutI_le (ns : List Int) (lo hi : Option Int) : (cutI ns lo hi).length ≤ ns.length := by
  unfold cutI
  rw [List.length_take, List.length_drop]; omega
theorem vwH_len (ns : List Int) {s t : Int} (ht : 0 ≤ t) : (vwH ns s t).length ≤ 2 * t.toNat := by
  have a := hdI_len ns t
  have b := hdI_len ns (t - 1)
  unfold vwH
  split
  · have := cutI_le (hdI ns (t - 1)) (some (-(t - atD ns t - s))) none
    rw [List.length_append]; omega
  · omega
theorem cutI_map (f : Int → Int) (ns : List Int) (lo hi : Option Int) : cutI (ns.map f) lo hi = (cutI ns lo hi).map f := by
  unfold cutI
  rw [List.length_map, List.map_take, List.map_drop]
/-! ### an outline behind another -/
theorem atD_left {A B : List Int} {k : Int} (h0 : 0 ≤ k) (h1 : k < A.length) : atD (A ++ B) k = atD A k := by
  obtain ⟨i, rfl⟩ : ∃ i : Nat, k = (i : Int) := ⟨k.toNat, by omega⟩
  have hi : i < A.length := by omega
  have e : A[i]? = some A[i] := List.getElem?_eq_getElem hi
  rw [atD_nat e, atD_nat (ns := A ++ B) (by rw [List.getElem?_append_left hi]; exact e)]
theorem atD_right {A B : List Int} {k : Int} (h0 : 0 ≤ k) (h1 : k < B.length) : atD (A ++ B) (A.length + k) = atD B k := by
  obtain ⟨i, rfl⟩ : ∃ i : Nat, k = (i : Int) := ⟨k.toNat, by omega⟩
  have hi : i < B.length := by omega
  have e : B[i]? = some B[i] := List.getElem?_eq_getElem hi
  rw [atD_nat e]
  have e2 : (A ++ B)[A.length + i]? = some B[i] := by rw [List.getElem?_append_right (by omega), Nat.add_sub_cancel_left]; exact e
  have := atD_nat e2
  rwa [Int.natCast_add] at this
theorem Outline.join {A B : List Int} (hA : Outline A) (hB : Outline B) (h : A.length + B.length ≤ 200) : Outline (A ++ B) := by
  have a := hA.len
  refine outline_iff.mpr ⟨by rw [List.length_append]; omega, by rw [List.length_append]; exact h, ?_⟩
  have l0 := lastD_bound (-1) A hA.chain a.1
  refine (chainI_append _ _ _).mpr ⟨hA.chain, ?_⟩
  match B, hB.chain with
  | [], _ => trivial
  | e :: r, c => exact ⟨c.1, by have := c.2.1; omega, c.2.2⟩
theorem hbk_none {f : Int → Int} : ∀ (k : Nat), (∀ i : Nat, i < k → 0 ≤ f i) → hbk f k 0 = []
  | 0, _ => rfl
  | k + 1, h => by
    rw [hbk, if_neg (by have := h k (by omega); omega)]
    exact hbk_none k fun i hi => h i (by omega)
theorem hbk_same {f g : Int → Int} : ∀ (k : Nat) (d : Int), (∀ i : Nat, i < k → f i = g i) → hbk f k d = hbk g k d
  | 0, _, _ => rfl
  | k + 1, d, h => by
    rw [hbk, hbk, h k (by omega), hbk_same k (g k) (fun i hi => h i (by omega)), hbk_same k d (fun i hi => h i (by omega))]
theorem hbk_right {A B : List Int} (hB : Outline B) (hC : Outline (A ++ B)) : ∀ (k : Nat) (d : Int), k ≤ B.length → 0 ≤ d → (k = 0 → d = 0) →
    hbk (atD (A ++ B)) (A.length + k) d = (hbk (atD B) k d).map fun x => (A.length : Int) + x
  | 0, d, _, _, h => by
    rw [h rfl]
    refine hbk_none _ fun i hi => (hC.at (i := (i : Nat)) (by omega) ?_).1
    rw [List.length_append]; omega
  | k + 1, d, hk, hd, _ => by
    have e : atD (A ++ B) ((A.length + k : Nat) : Int) = atD B (k : Nat) := by
      have := atD_right (A := A) (B := B) (k := (k : Nat)) (by omega) (by omega)
      rwa [← Int.natCast_add] at this
    have n := hB.at (i := (k : Nat)) (by omega) (by omega)
    show hbk (atD (A ++ B)) ((A.length + k) + 1) d = _
    rw [hbk, hbk, e]
    by_cases c : atD B (k : Nat) < d
    · rw [if_pos c, if_pos c, hbk_right hB hC k _ (by omega) n.1 (fun z => by subst z; omega), List.map_cons, Int.natCast_add]
    · rw [if_neg c, if_neg c, hbk_right hB hC k _ (by omega) hd (fun z => by subst z; omega)]
theorem hdI_right {A B : List Int} (hB : Outline B) (hC : Outline (A ++ B)) {t : Int} (h0 : 0 ≤ t) (h1 : t < B.length) :
    hdI (A ++ B) (A.length + t) = (hdI B t).map fun x => (A.length : Int) + x := by
  have n := hB.at h0 h1
  unfold hdI
  rw [atD_right h0 h1, show ((A.length : Int) + t).toNat = A.length + t.toNat by omega, hbk_right hB hC _ _ (by omega) n.1 (fun z => by omega), List.map_reverse]
theorem hdI_left {A B : List Int} {t : Int} (h0 : 0 ≤ t) (h1 : t < A.length) : hdI (A ++ B) t = hdI A t := by
  unfold hdI
  rw [atD_left h0 h1, hbk_same _ _ fun i hi => atD_left (by omega) (by omega)]
theorem rgI_move (a b c : Int) : rgI (a + b) (a + c) = (rgI b c).map fun x => a + x := by
  unfold rgI
  rw [List.map_map, show a + c - (a + b) = c - b by omega]
  refine List.map_congr_left fun i _ => ?_
  show a + b + (i : Int) = a + (b + (i : Int))
  omega
theorem rgI_join {a b c : Int} (h1 : a ≤ b) (h2 : b ≤ c) : rgI a c = rgI a b ++ rgI b c := by
  refine List.ext_getElem? fun i => ?_
  by_cases h : i < (b - a).toNat
  · rw [List.getElem?_append_left (by rw [rgI_len]; exact h), rgI_get h, rgI_get (by omega)]
  · rw [List.getElem?_append_right (by rw [rgI_len]; omega), rgI_len]
    by_cases h3 : i < (c - a).toNat
    · rw [rgI_get h3, rgI_get (by omega)]
      congr 1; omega
    · rw [List.getElem?_eq_none (by rw [rgI_len]; omega), List.getElem?_eq_none (by rw [rgI_len]; omega)]
theorem TopIs.right {A B : List Int} (hA : Outline A) {s t : Int} (h : TopIs (atD B) B.length s t) (hs : 0 ≤ s) : TopIs (atD (A ++ B)) (A ++ B).length (A.length + s) (A.length + t) := by
  have l := h.lo
  have u := h.hi
  refine ⟨by omega, by rw [List.length_append]; omega, by rw [atD_right l u]; have := h.ok; omega, fun k k0 k1 => ?_⟩
  by_cases c : k < A.length
  · rw [atD_left k0 c]
    have := hA.at k0 c
    omega
  · have := h.least (k - A.length) (by omega) (by omega)
    have e := atD_right (A := A) (B := B) (k := k - A.length) (by omega) (by omega)
    rw [show (A.length : Int) + (k - A.length) = k by omega] at e
    rw [e]; omega
theorem TopIs.left {A : List Int} (B : List Int) {s t : Int} (h : TopIs (atD A) A.length s t) : TopIs (atD (A ++ B)) (A ++ B).length s t := by
  have l := h.lo
  have u := h.hi
  exact ⟨l, by rw [List.length_append]; omega, by rw [atD_left l u]; exact h.ok, fun k k0 k1 => by rw [atD_left k0 (by omega)]; exact h.least k k0 k1⟩
theorem vwI_right {A B : List Int} (hB : Outline B) (hC : Outline (A ++ B)) {h s t : Int} (ht : TopIs (atD B) B.length s t) (hs : 0 ≤ s) :
    vwI (A ++ B) h (A.length + s) (A.length + t) = (vwI B h s t).map fun x => (A.length : Int) + x := by
  have l := ht.lo
  have u := ht.hi
  have n := hB.at l u
  unfold vwI
  rw [← cutI_map, List.map_append, ← rgI_move, List.length_append, Int.natCast_add]
  congr 2
  unfold vwH
  rw [atD_right l u, show (A.length : Int) + t - atD B t - (A.length + s) = t - atD B t - s by omega]
  by_cases c : 0 < t - atD B t - s
  · rw [if_pos c, if_pos c, hdI_right hB hC l u, show (A.length : Int) + t - 1 = A.length + (t - 1) by omega, hdI_right hB hC (t := t - 1) (by omega) (by omega), List.map_append, ← cutI_map]
  · rw [if_neg c, if_neg c, hdI_right hB hC l u]
theorem vwH_left {A : List Int} (B : List Int) (hA : Outline A) {s t : Int} (ht : TopIs (atD A) A.length s t) (hs : 0 ≤ s) : vwH (A ++ B) s t = vwH A s t := by
  have l := ht.lo
  have u := ht.hi
  have n := hA.at l u
  unfold vwH
  rw [atD_left l u, hdI_left l u]
  by_cases c : 0 < t - atD A t - s
  · rw [if_pos c, if_pos c, hdI_left (t := t - 1) (by omega) (by omega)]
  · rw [if_neg c, if_neg c]
theorem take_take_len (xs zs : List Int) (n : Nat) : ((xs ++ zs).take n).take (xs.take n).length = xs.take n := by
  rw [List.take_take, List.length_take, show min (min n xs.length) n = min n xs.length by omega, List.take_append_of_le_length (by omega)]
  rw [List.take_eq_take_iff]; omega
theorem vwI_left {A : List Int} (B : List Int) (hA : Outline A) {h s t : Int} (hh : 0 ≤ h) (ht : TopIs (atD A) A.length s t) (hs : 0 ≤ s) :
    (vwI (A ++ B) h s t).take (vwI A h s t).length = vwI A h s t := by
  have l := ht.lo
  have u := ht.hi
  rw [vwI_take hh, vwI_take hh, vwH_left B hA ht hs, rgI_join (a := t) (b := A.length) (c := (A ++ B).length) (by omega) (by rw [List.length_append]; omega), ← List.append_assoc]
  exact take_take_len _ _ _
theorem vwI_less {ns : List Int} {h h' s t : Int} (h0 : 0 ≤ h) (h1 : h ≤ h') : (vwI ns h' s t).take h.toNat = vwI ns h s t := by
  rw [vwI_take h0, vwI_take (by omega), List.take_take, show min h.toNat h'.toNat = h.toNat by omega]

/-- the last scroll position -/
def lsI (ns : List Int) : Int := ns.length - 1 - lastD (-1) ns
/-- is it a scroll position, m the last one -/
def scV (m : Int) : V → Bool
  | .int i => decide (0 ≤ i) && decide (i ≤ m)
  | _ => false
theorem scV_int (m i : Int) : scV m (.int i) = (decide (0 ≤ i) && decide (i ≤ m)) := rfl
theorem scV_not {m : Int} {x : V} (h : isInt x = false) : scV m x = false := by cases x <;> first | rfl | cases h
theorem scV_yes {m : Int} {x : V} (h : scV m x = true) : ∃ i, x = .int i ∧ 0 ≤ i ∧ i ≤ m := by
  cases x <;> first | cases h; done | skip
  rw [scV_int, Bool.and_eq_true, decide_eq_true_eq, decide_eq_true_eq] at h
  exact ⟨_, rfl, h.1, h.2⟩
theorem rgV_yes {m : Int} {x : V} (h : rgV m x = true) : ∃ i, x = .int i ∧ 0 ≤ i ∧ i < m := by
  cases x <;> first | cases h; done | skip
  rw [rgV_int, Bool.and_eq_true, decide_eq_true_eq, decide_eq_true_eq] at h
  exact ⟨_, rfl, h.1, h.2⟩
theorem htV_yes {x : V} (h : htV x = true) : ∃ i, x = .int i ∧ 1 ≤ i ∧ i ≤ 400 := by
  cases x <;> first | cases h; done | skip
  rw [htV_int, Bool.and_eq_true, decide_eq_true_eq, decide_eq_true_eq] at h
  exact ⟨_, rfl, h.1, h.2⟩
def sp_top_of  : Sp := fun vs H Q E => ∃ (a : Addr) (ns : List Int) (s : Int) (L : Lg), vs = [.ref a, .int s] ∧ Led H (L) ∧ ((a, .lst (ns.map V.int)) ∈ L) ∧ (ns.length ≤ 1000) ∧ (∃ k : Int, 0 ≤ k ∧ k < ns.length ∧ s ≤ k - atD ns k) ∧ ∀ (t : Int), (TopIs (atD ns) ns.length s t) → Tr (L) (fun H => Q (.int t) H)
theorem use_top_of {L : Lg} {Q : VK} {E : XK} {a : Addr} {ns : List Int} {s : Int} (hm : (a, .lst (ns.map V.int)) ∈ L) (hz : ns.length ≤ 1000) (hx : ∃ k : Int, 0 ≤ k ∧ k < ns.length ∧ s ≤ k - atD ns k) (q : ∀ (t : Int), (TopIs (atD ns) ns.length s t) → Tr (L) (fun H => Q (.int t) H)) : Tr L fun H => sp_top_of [.ref a, .int s] H Q E :=
  fun H l => ⟨a, ns, s, L, rfl, l, hm, hz, hx, q⟩

theorem ok_top_of (D : Df K mg "top_of" s_top_of) (B : Blt mg) : Ok P w K mg base CX0 1 "top_of" ["outline", "scroll"] sp_top_of := by
  obtain ⟨f, fd, hm, F⟩ := D
  refine ⟨f, fd, hm, F.kp, F.binds (fun _ _ _ _ _ _ us hl => match us, hl with | [_, _], _ => rfl), FunOkG F sc_top_of (fun vs H Q E h => ?_) (fun cdv A outer s H vs Q E hr h => ?_), F.lk⟩
  · obtain ⟨_, _, _, _, rfl, _⟩ := h; rfl
  obtain ⟨a, ns, s, L, rfl, l, hm, hz, hx, q⟩ := h
  refine ⟨_, PSs.nox (pss_one (ps_ret (pe_ix ix_list (pe_lc (own := [("line", 2), ("depth", 3)]) (g := gTup _ 2 (gCons (gName 2) (gCons (gName 3) (gNil)))) (by rfl) sc_top_of.nd (pi_enum (by rfl) B.enumerate_ (pa_cons (pv 0) pa_nil)) (blkOk_by (own := [("line", 2), ("depth", 3)]) (N := ["outline", "scroll", "line", "depth"]) (sc := defScope s_top_of) (by decide +kernel)) (fun _ _ _ _ _ => (pg_tup rfl (pgs_cons (pg_name (i := 2) sc_top_of.nd rfl (.inl rfl)) (pgs_cons (pg_name (i := 3) sc_top_of.nd rfl (.inl rfl)) pgs_nil)))) (fun _ _ _ _ _ => (pts_one (pt_cmpR op_ge (pe_op op_sub (pv 2) (pv 3)) (pv 1) (nomark _)))) (fun _ _ _ _ _ => (pv 2))) pe_int (fun _ _ => rfl)))), ?_⟩
  rw [show L2.start ["outline", "scroll", "line", "depth"] [.ref a, .int s] = [some (.ref a), some (.int s), none, none] from rfl]
  refine Tr.of ?_ l
  obtain ⟨R_hm, P_hm⟩ := Pick.of_mem hm
  repeat walk_at "hz"
  obtain ⟨R, hp⟩ := Pick.of_mem hm
  repeat walk_at "hz"
  refine t_lcFil (wk_enum (xs := ns.map V.int)) (by rfl) (fun t => decide (s ≤ (t : Int) - atD ns (t : Nat))) (fun t => .int ((t : Nat) : Int)) (fun x => ⟨_, hp.tail⟩) ?_ ?_
  · rintro D t v L' ht ⟨T, x, rfl, hx, rfl⟩
    obtain ⟨d, hd, rfl⟩ := map_get hx
    obtain rfl := atD_nat hd
    rw [List.cons_append, List.nil_append]
    repeat walk_at "hz"
    refine t_iteD (fun h3 => ?_) fun h3 => ?_
    · repeat walk_at "hz"
      exact t_lcFlA ht (by rw [sizeLine_eq]; simp; omega) (decide_eq_true (by omega)) rfl (by walk_at "pk") (by walk_at "sb")
    · repeat walk_at "hz"
      exact t_lcFlS (decide_eq_false (by omega)) (by walk_at "pk") (by walk_at "sb")
  · intro D
    rw [List.length_map]
    obtain ⟨j, g1, g2, g3⟩ := first_fl (fun t => decide (s ≤ (t : Int) - atD ns (t : Nat))) (fun t => V.int ((t : Nat) : Int)) ns.length
    rcases g3 with ⟨rfl, g3⟩ | ⟨g3, g4, r, g5⟩
    · obtain ⟨k, k0, k1, k2⟩ := hx
      have := of_decide_eq_false (g2 k.toNat (by omega))
      rw [Int.toNat_of_nonneg k0] at this
      omega
    · rw [g5]
      refine t_ixL .head (atI_nat (j := 0) rfl) ?_
      refine (q _ ⟨by omega, by omega, of_decide_eq_true g4, fun k k0 k1 => ?_⟩).sub (by walk_at "sb")
      have := of_decide_eq_false (g2 k.toNat (by omega))
      rw [Int.toNat_of_nonneg k0] at this
      omega
def sp_last_scroll  : Sp := fun vs H Q E => ∃ (a : Addr) (ns : List Int) (L : Lg), vs = [.ref a] ∧ Led H (L) ∧ ((a, .lst (ns.map V.int)) ∈ L) ∧ (1 ≤ ns.length) ∧ (ns.length ≤ 1000) ∧ Tr (L) (fun H => Q (.int (ns.length - 1 - lastD (-1) ns)) H)
theorem use_last_scroll {L : Lg} {Q : VK} {E : XK} {a : Addr} {ns : List Int} (hm : (a, .lst (ns.map V.int)) ∈ L) (h0 : 1 ≤ ns.length) (h1 : ns.length ≤ 1000) (q : Tr (L) (fun H => Q (.int (ns.length - 1 - lastD (-1) ns)) H)) : Tr L fun H => sp_last_scroll [.ref a] H Q E :=
  fun H l => ⟨a, ns, L, rfl, l, hm, h0, h1, q⟩

theorem ok_last_scroll (D : Df K mg "last_scroll" s_last_scroll) (B : Blt mg) : Ok P w K mg base CX0 1 "last_scroll" ["outline"] sp_last_scroll := by
  obtain ⟨f, fd, hm, F⟩ := D
  refine ⟨f, fd, hm, F.kp, F.binds (fun _ _ _ _ _ _ us hl => match us, hl with | [_], _ => rfl), FunOkG F sc_last_scroll (fun vs H Q E h => ?_) (fun cdv A outer s H vs Q E hr h => ?_), F.lk⟩
  · obtain ⟨_, _, _, rfl, _⟩ := h; rfl
  obtain ⟨a, ns, L, rfl, l, hm, h0, h1, q⟩ := h
  refine ⟨_, PSs.nox (pss_one (ps_ret (pe_op op_sub (pe_op op_sub (pe_callB c_len rfl B.len_ boot_len (pa_cons (pv 0) pa_nil)) pe_int) (pe_ix ix_list (pv 0) (pe_un un_neg pe_int) (fun _ _ => rfl))))), ?_⟩
  rw [show L2.start ["outline"] [.ref a] = [some (.ref a)] from rfl]
  refine Tr.of ?_ l
  obtain ⟨R_hm, P_hm⟩ := Pick.of_mem hm
  repeat walk_at "hz"
  refine t_ixL (by walk_at "pk") (at_lastD (-1) h0) ?_
  repeat walk_at "hz"
  exact q
def sp_check_scroll (C_InvalidScrollError : Addr) : Sp := fun vs H Q E => ∃ (a : Addr) (ns : List Int) (x : V) (T : String) (L : Lg), vs = [.ref a, x] ∧ Led H (L) ∧ ((a, .lst (ns.map V.int)) ∈ L) ∧ (1 ≤ ns.length) ∧ (ns.length ≤ 1000) ∧ (HasTy L x T) ∧ ((scV (lsI ns) x = true) → (Tr (L) (fun H => Q (.non) H))) ∧ ((scV (lsI ns) x = false) → Tr (L) (fun H => E (.ref C_InvalidScrollError) none H))
theorem use_check_scroll {L : Lg} {Q : VK} {E : XK} {a : Addr} {ns : List Int} {x : V} {T : String} (hm : (a, .lst (ns.map V.int)) ∈ L) (h0 : 1 ≤ ns.length) (h1 : ns.length ≤ 1000) (ht : HasTy L x T) (q : (scV (lsI ns) x = true) → (Tr (L) (fun H => Q (.non) H))) (x0 : (scV (lsI ns) x = false) → Tr (L) (fun H => E (.ref C_InvalidScrollError) none H)) : Tr L fun H => sp_check_scroll C_InvalidScrollError [.ref a, x] H Q E :=
  fun H l => ⟨a, ns, x, T, L, rfl, l, hm, h0, h1, ht, q, x0⟩

theorem ok_check_scroll {C_InvalidScrollError : Addr} (D : Df K mg "check_scroll" s_check_scroll) (B : Blt mg) (X_InvalidScrollError : ExcC K mg "InvalidScrollError" C_InvalidScrollError) (k_is_integer : Ok P w K mg base CX0 1 "is_integer" ["value"] sp_is_integer) (k_last_scroll : Ok P w K mg base CX0 1 "last_scroll" ["outline"] sp_last_scroll) : Ok P w K mg base (L2N.CX P w) 2 "check_scroll" ["outline", "scroll"] (sp_check_scroll C_InvalidScrollError) := by
  obtain ⟨f, fd, hm, F⟩ := D
  refine ⟨f, fd, hm, F.kp, F.binds (fun _ _ _ _ _ _ us hl => match us, hl with | [_, _], _ => rfl), FunOkG F sc_check_scroll (fun vs H Q E h => ?_) (fun cdv A outer s H vs Q E hr h => ?_), F.lk⟩
  · obtain ⟨_, _, _, _, _, rfl, _⟩ := h; rfl
  obtain ⟨a, ns, x, T, L, rfl, l, hm, h0, h1, ht, q, x0⟩ := h
  refine ⟨_, (pss_one (ps_if (PW.pt (pw_or (pt_not (pt_val (pe_callG k_is_integer (hr.mono (by omega)) pas0 (pa_cons (pv 1) pa_nil)))) (pw_or1 (pt_not (pt_chain op_le op_le pe_int (pv 1) (pe_callG k_last_scroll (hr.mono (by omega)) pas0 (pa_cons (pv 0) pa_nil))))))) (pss_one (L2N.ps_raise rfl (L2N.takes_of rfl rfl rfl rfl) (pe_mk X_InvalidScrollError)))
        pss_nil)), ?_⟩
  rw [show L2.start ["outline", "scroll"] [.ref a, x] = [some (.ref a), some x] from rfl]
  refine Tr.of ?_ l
  obtain ⟨R_hm, P_hm⟩ := Pick.of_mem hm
  repeat walk_at "hz"
  refine use_is_integer ht ?_
  repeat walk_at "hz"
  by_cases c : isInt x = true
  · obtain ⟨n, rfl⟩ : ∃ n, x = .int n := by cases x <;> first | exact ⟨_, rfl⟩ | cases c
    repeat walk_at "hz"
    refine t_iteD (fun h1' => ?_) fun h1' => ?_
    · repeat walk_at "hz"
      refine use_last_scroll hm h0 h1 ?_
      repeat walk_at "hz"
      refine t_iteND (fun h2 => ?_) fun h2 => ?_
      · repeat walk_at "hz"
        exact x0 (by rw [scV_int, decide_eq_false (show ¬ n ≤ lsI ns from h2), Bool.and_false])
      · repeat walk_at "hz"
        exact q (by rw [scV_int, decide_eq_true h1', decide_eq_true (show n ≤ lsI ns from h2)]; rfl)
    · repeat walk_at "hz"
      exact x0 (by rw [scV_int, decide_eq_false h1', Bool.false_and])
  · have c2 : isInt x = false := by simpa using c
    rw [c2]
    repeat walk_at "hz"
    exact x0 (scV_not c2)
def sp_view_of  : Sp := fun vs H Q E => ∃ (a : Addr) (ns : List Int) (h s : Int) (L : Lg), vs = [.ref a, .int h, .int s] ∧ Led H (L) ∧ ((a, .lst (ns.map V.int)) ∈ L) ∧ (Outline ns) ∧ (1 ≤ h) ∧ (h ≤ 400) ∧ (0 ≤ s) ∧ (s ≤ ns.length - 1 - lastD (-1) ns) ∧ ∀ (t : Int) (p : Addr), (TopIs (atD ns) ns.length s t) → Tr ((p, .lst ((vwI ns h s t).map V.int)) :: L) (fun H => Q (.ref p) H)
theorem use_view_of {L : Lg} {Q : VK} {E : XK} {a : Addr} {ns : List Int} {h s : Int} (hm : (a, .lst (ns.map V.int)) ∈ L) (ho : Outline ns) (h0 : 1 ≤ h) (h1 : h ≤ 400) (h2 : 0 ≤ s) (h3 : s ≤ ns.length - 1 - lastD (-1) ns) (q : ∀ (t : Int) (p : Addr), (TopIs (atD ns) ns.length s t) → Tr ((p, .lst ((vwI ns h s t).map V.int)) :: L) (fun H => Q (.ref p) H)) : Tr L fun H => sp_view_of [.ref a, .int h, .int s] H Q E :=
  fun H l => ⟨a, ns, h, s, L, rfl, l, hm, ho, h0, h1, h2, h3, q⟩

theorem ok_view_of (D : Df K mg "view_of" s_view_of) (B : Blt mg) (k_headings_of : Ok P w K mg base CX0 1 "headings_of" ["outline", "line"] sp_headings_of) (k_top_of : Ok P w K mg base CX0 1 "top_of" ["outline", "scroll"] sp_top_of) : Ok P w K mg base CX0 2 "view_of" ["outline", "height", "scroll"] sp_view_of := by
  obtain ⟨f, fd, hm, F⟩ := D
  refine ⟨f, fd, hm, F.kp, F.binds (fun _ _ _ _ _ _ us hl => match us, hl with | [_, _, _], _ => rfl), FunOkG F sc_view_of (fun vs H Q E h => ?_) (fun cdv A outer s H vs Q E hr h => ?_), F.lk⟩
  · obtain ⟨_, _, _, _, _, rfl, _⟩ := h; rfl
  obtain ⟨a, ns, h, s, L, rfl, l, hm, ho, h0, h1, h2, h3, q⟩ := h
  refine ⟨_, PSs.nox (pss_cons (ps_set (i := 3) sc_view_of.nd rfl (.inl rfl) (pe_callG k_top_of (hr.mono (by omega)) pas0 (pa_cons (pv 0) (pa_cons (pv 2) pa_nil))))
      (pss_cons (ps_set (i := 4) sc_view_of.nd rfl (.inl rfl) (pe_callG k_headings_of (hr.mono (by omega)) pas0 (pa_cons (pv 0) (pa_cons (pv 3) pa_nil))))
      (pss_cons (ps_set (i := 5) sc_view_of.nd rfl (.inl rfl) (pe_op op_sub (pe_op op_sub (pv 3) (pe_ix ix_list (pv 0) (pv 3) (fun _ _ => rfl))) (pv 2)))
      (pss_cons (ps_if (pt_cmpR op_gt (pv 5) pe_int (nomark _)) (pss_one (ps_set (i := 4) sc_view_of.nd rfl (.inl rfl) (pe_op op_cat (pv 4) (pe_slice sl_list (pe_callG k_headings_of (hr.mono (by omega)) pas0 (pa_cons (pv 0) (pa_cons (pe_op op_sub (pv 3) pe_int) pa_nil))) (po_some (pe_un un_neg (pv 5))) po_none))))
        pss_nil)
      (pss_one (ps_ret (pe_slice sl_list (pe_op op_cat (pv 4) (pe_listRg rfl rfl B.list_ (prg_2 rfl B.range_ (pv 3) (pe_callB c_len rfl B.len_ boot_len (pa_cons (pv 0) pa_nil))))) po_none (po_some (pv 1))))))))), ?_⟩
  rw [show L2.start ["outline", "height", "scroll", "top", "found", "pushed"] [.ref a, .int h, .int s] = [some (.ref a), some (.int h), some (.int s), none, none, none] from rfl]
  refine Tr.of ?_ l
  obtain ⟨R_hm, P_hm⟩ := Pick.of_mem hm
  repeat walk_at "hz"
  have hl := ho.len
  refine use_top_of hm (by omega) (ho.top h3) fun t ht => ?_
  have l := ht.lo
  have u := ht.hi
  have n := ho.at l u
  have vl := vwH_len ns (s := s) l
  repeat walk_at "hz"
  refine use_headings_of hm l u (by omega) fun e => ?_
  repeat walk_at "hz"
  refine t_iteD (fun c => ?_) fun c => ?_
  · repeat walk_at "hz"
    refine use_headings_of (by walk_at "mb") (by omega) (by omega) (by omega) fun e2 => ?_
    repeat walk_at "hz"
    refine t_catI (by walk_at "pk") (by walk_at "pk") (by rw [sizeLine_eq]; have := cutI_le (hdI ns (t - 1)) (some (-(t - atD ns t - s))) none; have := hdI_len ns t; have := hdI_len ns (t - 1); omega) fun e4 => ?_
    rw [show hdI ns t ++ cutI (hdI ns (t - 1)) (some (-(t - atD ns t - s))) none = vwH ns s t by unfold vwH; rw [if_pos c]]
    repeat walk_at "hz"
    refine t_catI (by walk_at "pk") (by walk_at "pk") (by rw [sizeLine_eq, rgI_len]; omega) fun e5 => ?_
    repeat walk_at "hz"
    exact (q t _ ht).sub (by walk_at "sb")
  · rw [show hdI ns t = vwH ns s t by unfold vwH; rw [if_neg c]]
    repeat walk_at "hz"
    refine t_catI (by walk_at "pk") (by walk_at "pk") (by rw [sizeLine_eq, rgI_len]; omega) fun e5 => ?_
    repeat walk_at "hz"
    exact (q t _ ht).sub (by walk_at "sb")
def sp_shown_of  : Sp := fun vs H Q E => ∃ (a : Addr) (ns : List Int) (h s : Int) (L : Lg), vs = [.ref a, .int h, .int s] ∧ Led H (L) ∧ ((a, .lst (ns.map V.int)) ∈ L) ∧ (Outline ns) ∧ (1 ≤ h) ∧ (h ≤ 400) ∧ (0 ≤ s) ∧ (s ≤ ns.length - 1 - lastD (-1) ns) ∧ ∀ (v : V) (N : Lg), Tr ((N ++ L)) (fun H => Q (v) H)
theorem use_shown_of {L : Lg} {Q : VK} {E : XK} {a : Addr} {ns : List Int} {h s : Int} (hm : (a, .lst (ns.map V.int)) ∈ L) (ho : Outline ns) (h0 : 1 ≤ h) (h1 : h ≤ 400) (h2 : 0 ≤ s) (h3 : s ≤ ns.length - 1 - lastD (-1) ns) (q : ∀ (v : V) (N : Lg), Tr ((N ++ L)) (fun H => Q (v) H)) : Tr L fun H => sp_shown_of [.ref a, .int h, .int s] H Q E :=
  fun H l => ⟨a, ns, h, s, L, rfl, l, hm, ho, h0, h1, h2, h3, q⟩

theorem ok_shown_of (D : Df K mg "shown_of" s_shown_of) (B : Blt mg) (k_top_of : Ok P w K mg base CX0 1 "top_of" ["outline", "scroll"] sp_top_of) : Ok P w K mg base CX0 2 "shown_of" ["outline", "height", "scroll"] sp_shown_of := by
  obtain ⟨f, fd, hm, F⟩ := D
  refine ⟨f, fd, hm, F.kp, F.binds (fun _ _ _ _ _ _ us hl => match us, hl with | [_, _, _], _ => rfl), FunOkG F sc_shown_of (fun vs H Q E h => ?_) (fun cdv A outer s H vs Q E hr h => ?_), F.lk⟩
  · obtain ⟨_, _, _, _, _, rfl, _⟩ := h; rfl
  obtain ⟨a, ns, h, s, L, rfl, l, hm, ho, h0, h1, h2, h3, q⟩ := h
  refine ⟨_, PSs.nox (pss_cons (ps_par (i := 3) (j := 4) (by rfl) sc_shown_of.nd rfl rfl (by decide) rfl rfl (pa_cons (pe_callG k_top_of (hr.mono (by omega)) pas0 (pa_cons (pv 0) (pa_cons (pv 2) pa_nil))) (pa_cons (pe_callB (c_min2 rfl) rfl B.min_ boot_min (pa_cons (pe_op op_add (pv 2) (pv 1)) (pa_cons (pe_callB c_len rfl B.len_ boot_len (pa_cons (pv 0) pa_nil)) pa_nil))) pa_nil)) (by rfl))
      (pss_one (ps_ret (pe_ifExp (pt_cmpR op_lt (pv 3) (pv 4) (nomark _)) (pe_tup (pa_cons (pv 3) (pa_cons (pe_op op_sub (pv 4) pe_int) pa_nil))) pe_non)))), ?_⟩
  rw [show L2.start ["outline", "height", "scroll", "top", "end"] [.ref a, .int h, .int s] = [some (.ref a), some (.int h), some (.int s), none, none] from rfl]
  refine Tr.of ?_ l
  obtain ⟨R_hm, P_hm⟩ := Pick.of_mem hm
  repeat walk_at "hz"
  have hl := ho.len
  refine use_top_of hm (by omega) (ho.top h3) fun t ht => ?_
  repeat walk_at "hz"
  refine t_iteD (fun c => ?_) fun c => ?_
  · repeat walk_at "hz"
    exact q _ [_]
  · repeat walk_at "hz"
    exact q _ []
/-- the scroll positions at which a line is shown, or none -/
def IvIs (ns : List Int) (h i : Int) (v : V) (N : Lg) : Prop :=
  (max 0 (i - h + 1) ≤ i - atD ns i ∧ ∃ p, v = .ref p ∧ N = [(p, .tup ([max 0 (i - h + 1), i - atD ns i].map V.int))]) ∨ (¬ max 0 (i - h + 1) ≤ i - atD ns i ∧ v = .non ∧ N = [])
def sp_interval_for  : Sp := fun vs H Q E => ∃ (a : Addr) (ns : List Int) (h i : Int) (L : Lg), vs = [.ref a, .int h, .int i] ∧ Led H (L) ∧ ((a, .lst (ns.map V.int)) ∈ L) ∧ (0 ≤ i) ∧ (i < ns.length) ∧ (ns.length ≤ 1000) ∧ (1 ≤ h) ∧ (h ≤ 400) ∧ ∀ (v : V) (N : Lg), (IvIs ns h i v N) → Tr ((N ++ L)) (fun H => Q (v) H)
theorem use_interval_for {L : Lg} {Q : VK} {E : XK} {a : Addr} {ns : List Int} {h i : Int} (hm : (a, .lst (ns.map V.int)) ∈ L) (h0 : 0 ≤ i) (h1 : i < ns.length) (h2 : ns.length ≤ 1000) (h3 : 1 ≤ h) (h4 : h ≤ 400) (q : ∀ (v : V) (N : Lg), (IvIs ns h i v N) → Tr ((N ++ L)) (fun H => Q (v) H)) : Tr L fun H => sp_interval_for [.ref a, .int h, .int i] H Q E :=
  fun H l => ⟨a, ns, h, i, L, rfl, l, hm, h0, h1, h2, h3, h4, q⟩

theorem ok_interval_for (D : Df K mg "interval_for" s_interval_for) (B : Blt mg) : Ok P w K mg base CX0 1 "interval_for" ["outline", "height", "line"] sp_interval_for := by
  obtain ⟨f, fd, hm, F⟩ := D
  refine ⟨f, fd, hm, F.kp, F.binds (fun _ _ _ _ _ _ us hl => match us, hl with | [_, _, _], _ => rfl), FunOkG F sc_interval_for (fun vs H Q E h => ?_) (fun cdv A outer s H vs Q E hr h => ?_), F.lk⟩
  · obtain ⟨_, _, _, _, _, rfl, _⟩ := h; rfl
  obtain ⟨a, ns, h, i, L, rfl, l, hm, h0, h1, h2, h3, h4, q⟩ := h
  refine ⟨_, PSs.nox (pss_cons (ps_par (i := 3) (j := 4) (by rfl) sc_interval_for.nd rfl rfl (by decide) rfl rfl (pa_cons (pe_callB (c_max2 rfl) rfl B.max_ boot_max (pa_cons pe_int (pa_cons (pe_op op_add (pe_op op_sub (pv 2) (pv 1)) pe_int) pa_nil))) (pa_cons (pe_op op_sub (pv 2) (pe_ix ix_list (pv 0) (pv 2) (fun _ _ => rfl))) pa_nil)) (by rfl))
      (pss_one (ps_ret (pe_ifExp (pt_cmpR op_le (pv 3) (pv 4) (nomark _)) (pe_tup (pa_cons (pv 3) (pa_cons (pv 4) pa_nil))) pe_non)))), ?_⟩
  rw [show L2.start ["outline", "height", "line", "least", "greatest"] [.ref a, .int h, .int i] = [some (.ref a), some (.int h), some (.int i), none, none] from rfl]
  refine Tr.of ?_ l
  obtain ⟨R_hm, P_hm⟩ := Pick.of_mem hm
  repeat walk_at "hz"
  refine t_iteD (fun c => ?_) fun c => ?_
  · repeat walk_at "hz"
    rename_i p
    exact (q (.ref p) [_] (.inl ⟨by omega, p, rfl, rfl⟩)).sub (by walk_at "sb")
  · repeat walk_at "hz"
    exact (q .non [] (.inr ⟨by omega, rfl, rfl⟩)).sub (by walk_at "sb")
/-- is there no scroll position at which the line is shown -/
def dpI (ns : List Int) (h i : Int) : Bool := decide (¬ max 0 (i - h + 1) ≤ i - atD ns i)
def sp_nearest_for  : Sp := fun vs H Q E => ∃ (a : Addr) (ns : List Int) (h s i : Int) (L : Lg), vs = [.ref a, .int h, .int s, .int i] ∧ Led H (L) ∧ ((a, .lst (ns.map V.int)) ∈ L) ∧ (0 ≤ i) ∧ (i < ns.length) ∧ (ns.length ≤ 1000) ∧ (1 ≤ h) ∧ (h ≤ 400) ∧ ∀ (v : V) (N : Lg), ((dpI ns h i = true ∧ v = .non) ∨ (dpI ns h i = false ∧ ∃ z, v = .int z)) → Tr ((N ++ L)) (fun H => Q (v) H)
theorem use_nearest_for {L : Lg} {Q : VK} {E : XK} {a : Addr} {ns : List Int} {h s i : Int} (hm : (a, .lst (ns.map V.int)) ∈ L) (h0 : 0 ≤ i) (h1 : i < ns.length) (h2 : ns.length ≤ 1000) (h3 : 1 ≤ h) (h4 : h ≤ 400) (q : ∀ (v : V) (N : Lg), ((dpI ns h i = true ∧ v = .non) ∨ (dpI ns h i = false ∧ ∃ z, v = .int z)) → Tr ((N ++ L)) (fun H => Q (v) H)) : Tr L fun H => sp_nearest_for [.ref a, .int h, .int s, .int i] H Q E :=
  fun H l => ⟨a, ns, h, s, i, L, rfl, l, hm, h0, h1, h2, h3, h4, q⟩

theorem ok_nearest_for (D : Df K mg "nearest_for" s_nearest_for) (B : Blt mg) (k_interval_for : Ok P w K mg base CX0 1 "interval_for" ["outline", "height", "line"] sp_interval_for) : Ok P w K mg base CX0 2 "nearest_for" ["outline", "height", "scroll", "line"] sp_nearest_for := by
  obtain ⟨f, fd, hm, F⟩ := D
  refine ⟨f, fd, hm, F.kp, F.binds (fun _ _ _ _ _ _ us hl => match us, hl with | [_, _, _, _], _ => rfl), FunOkG F sc_nearest_for (fun vs H Q E h => ?_) (fun cdv A outer s H vs Q E hr h => ?_), F.lk⟩
  · obtain ⟨_, _, _, _, _, _, rfl, _⟩ := h; rfl
  obtain ⟨a, ns, h, s, i, L, rfl, l, hm, h0, h1, h2, h3, h4, q⟩ := h
  refine ⟨_, PSs.nox (pss_cons (ps_set (i := 4) sc_nearest_for.nd rfl (.inl rfl) (pe_callG k_interval_for (hr.mono (by omega)) pas0 (pa_cons (pv 0) (pa_cons (pv 1) (pa_cons (pv 3) pa_nil)))))
      (pss_one (ps_ret (pe_ifExp (pt_cmpR op_isN1 (pv 4) pe_non (nomark _)) pe_non (pe_callB (c_min2 rfl) rfl B.min_ boot_min (pa_cons (pe_callB (c_max2 rfl) rfl B.max_ boot_max (pa_cons (pv 2) (pa_cons (pe_ix ix_tup (pv 4) pe_int (fun _ _ => rfl)) pa_nil))) (pa_cons (pe_ix ix_tup (pv 4) pe_int (fun _ _ => rfl)) pa_nil))))))), ?_⟩
  rw [show L2.start ["outline", "height", "scroll", "line", "interval"] [.ref a, .int h, .int s, .int i] = [some (.ref a), some (.int h), some (.int s), some (.int i), none] from rfl]
  refine Tr.of ?_ l
  obtain ⟨R_hm, P_hm⟩ := Pick.of_mem hm
  repeat walk_at "hz"
  refine use_interval_for hm h0 h1 h2 h3 h4 fun v N hv => ?_
  rcases hv with ⟨c, p, rfl, rfl⟩ | ⟨c, rfl, rfl⟩
  · repeat walk_at "hz"
    exact q _ [_] (.inr ⟨decide_eq_false (fun z => z c), _, rfl⟩)
  · repeat walk_at "hz"
    exact q _ [] (.inl ⟨decide_eq_true c, rfl⟩)
def sp_check_arguments (C_InvalidHeightError C_InvalidOutlineError C_InvalidScrollError : Addr) : Sp := fun vs H Q E => ∃ (v0 v1 v2 : V) (T1 T2 : String) (b0 b2 : Bool) (L : Lg), vs = [v0, v1, v2] ∧ Led H (L) ∧ (OutIs L v0 b0) ∧ (HasTy L v1 T1) ∧ (HasTy L v2 T2) ∧ (b0 = true → ∃ a ns, v0 = .ref a ∧ (a, HO.lst (ns.map V.int)) ∈ L ∧ Outline ns ∧ scV (lsI ns) v2 = b2) ∧ ((b0 = true ∧ htV v1 = true ∧ b2 = true) → (Tr (L) (fun H => Q (.non) H))) ∧ ((b0 = false) → Tr (L) (fun H => E (.ref C_InvalidOutlineError) none H)) ∧ ((b0 = true ∧ htV v1 = false) → Tr (L) (fun H => E (.ref C_InvalidHeightError) none H)) ∧ ((b0 = true ∧ htV v1 = true ∧ b2 = false) → Tr (L) (fun H => E (.ref C_InvalidScrollError) none H))
theorem use_check_arguments {L : Lg} {Q : VK} {E : XK} {v0 v1 v2 : V} {T1 T2 : String} {b0 b2 : Bool} (hv0 : OutIs L v0 b0) (ht1 : HasTy L v1 T1) (ht2 : HasTy L v2 T2) (hg : b0 = true → ∃ a ns, v0 = .ref a ∧ (a, HO.lst (ns.map V.int)) ∈ L ∧ Outline ns ∧ scV (lsI ns) v2 = b2) (q : (b0 = true ∧ htV v1 = true ∧ b2 = true) → (Tr (L) (fun H => Q (.non) H))) (x0 : (b0 = false) → Tr (L) (fun H => E (.ref C_InvalidOutlineError) none H)) (x1 : (b0 = true ∧ htV v1 = false) → Tr (L) (fun H => E (.ref C_InvalidHeightError) none H)) (x2 : (b0 = true ∧ htV v1 = true ∧ b2 = false) → Tr (L) (fun H => E (.ref C_InvalidScrollError) none H)) : Tr L fun H => sp_check_arguments C_InvalidHeightError C_InvalidOutlineError C_InvalidScrollError [v0, v1, v2] H Q E :=
  fun H l => ⟨v0, v1, v2, T1, T2, b0, b2, L, rfl, l, hv0, ht1, ht2, hg, q, x0, x1, x2⟩

theorem ok_check_arguments {C_InvalidHeightError C_InvalidOutlineError C_InvalidScrollError : Addr} (D : Df K mg "check_arguments" s_check_arguments) (B : Blt mg) (k_check_outline : Ok P w K mg base (L2N.CX P w) 3 "check_outline" ["outline"] (sp_check_outline C_InvalidOutlineError)) (k_check_height : Ok P w K mg base (L2N.CX P w) 2 "check_height" ["height"] (sp_check_height C_InvalidHeightError)) (k_check_scroll : Ok P w K mg base (L2N.CX P w) 2 "check_scroll" ["outline", "scroll"] (sp_check_scroll C_InvalidScrollError)) : Ok P w K mg base (L2N.CX P w) 4 "check_arguments" ["outline", "height", "scroll"] (sp_check_arguments C_InvalidHeightError C_InvalidOutlineError C_InvalidScrollError) := by
  obtain ⟨f, fd, hm, F⟩ := D
  refine ⟨f, fd, hm, F.kp, F.binds (fun _ _ _ _ _ _ us hl => match us, hl with | [_, _, _], _ => rfl), FunOkG F sc_check_arguments (fun vs H Q E h => ?_) (fun cdv A outer s H vs Q E hr h => ?_), F.lk⟩
  · obtain ⟨_, _, _, _, _, _, _, _, rfl, _⟩ := h; rfl
  obtain ⟨v0, v1, v2, T1, T2, b0, b2, L, rfl, l, hv0, ht1, ht2, hg, q, x0, x1, x2⟩ := h
  refine ⟨_, (pss_cons (ps_expr (pe_callG k_check_outline (hr.mono (by omega)) (fun σ => L2N.passAt (L2N.takes_of rfl rfl rfl rfl) σ) (pa_cons (pv 0) pa_nil)))
      (pss_cons (ps_expr (pe_callG k_check_height (hr.mono (by omega)) (fun σ => L2N.passAt (L2N.takes_of rfl rfl rfl rfl) σ) (pa_cons (pv 1) pa_nil)))
      (pss_one (ps_expr (pe_callG k_check_scroll (hr.mono (by omega)) (fun σ => L2N.passAt (L2N.takes_of rfl rfl rfl rfl) σ) (pa_cons (pv 0) (pa_cons (pv 2) pa_nil))))))), ?_⟩
  rw [show L2.start ["outline", "height", "scroll"] [v0, v1, v2] = [some v0, some v1, some v2] from rfl]
  refine Tr.of ?_ l
  repeat walk_at "hz"
  refine use_check_outline hv0 (fun e0 => ?_) x0
  obtain ⟨a, ns, rfl, hm, ho, rfl⟩ := hg e0
  have hl := ho.len
  repeat walk_at "hz"
  refine use_check_height ht1 (fun e1 => ?_) (fun e => x1 ⟨e0, e⟩)
  repeat walk_at "hz"
  refine use_check_scroll hm hl.1 (by omega) ht2 (fun e2 => ?_) (fun e => x2 ⟨e0, e1, e⟩)
  repeat walk_at "hz"
  exact q ⟨e0, e1, e2⟩
def sp_top_line (C_InvalidOutlineError C_InvalidScrollError : Addr) : Sp := fun vs H Q E => ∃ (v0 v2 : V) (T2 : String) (b0 b2 : Bool) (L : Lg), vs = [v0, v2] ∧ Led H (L) ∧ (OutIs L v0 b0) ∧ (HasTy L v2 T2) ∧ (b0 = true → ∃ a ns, v0 = .ref a ∧ (a, HO.lst (ns.map V.int)) ∈ L ∧ Outline ns ∧ scV (lsI ns) v2 = b2) ∧ ((b0 = true ∧ b2 = true) → (∀ (v : V), Tr (L) (fun H => Q (v) H))) ∧ ((b0 = false) → Tr (L) (fun H => E (.ref C_InvalidOutlineError) none H)) ∧ ((b0 = true ∧ b2 = false) → Tr (L) (fun H => E (.ref C_InvalidScrollError) none H))
theorem use_top_line {L : Lg} {Q : VK} {E : XK} {v0 v2 : V} {T2 : String} {b0 b2 : Bool} (hv0 : OutIs L v0 b0) (ht2 : HasTy L v2 T2) (hg : b0 = true → ∃ a ns, v0 = .ref a ∧ (a, HO.lst (ns.map V.int)) ∈ L ∧ Outline ns ∧ scV (lsI ns) v2 = b2) (q : (b0 = true ∧ b2 = true) → (∀ (v : V), Tr (L) (fun H => Q (v) H))) (x0 : (b0 = false) → Tr (L) (fun H => E (.ref C_InvalidOutlineError) none H)) (x1 : (b0 = true ∧ b2 = false) → Tr (L) (fun H => E (.ref C_InvalidScrollError) none H)) : Tr L fun H => sp_top_line C_InvalidOutlineError C_InvalidScrollError [v0, v2] H Q E :=
  fun H l => ⟨v0, v2, T2, b0, b2, L, rfl, l, hv0, ht2, hg, q, x0, x1⟩

theorem ok_top_line {C_InvalidOutlineError C_InvalidScrollError : Addr} (D : Df K mg "top_line" s_top_line) (B : Blt mg) (k_check_outline : Ok P w K mg base (L2N.CX P w) 3 "check_outline" ["outline"] (sp_check_outline C_InvalidOutlineError)) (k_check_scroll : Ok P w K mg base (L2N.CX P w) 2 "check_scroll" ["outline", "scroll"] (sp_check_scroll C_InvalidScrollError)) (k_top_of : Ok P w K mg base CX0 1 "top_of" ["outline", "scroll"] sp_top_of) : Ok P w K mg base (L2N.CX P w) 4 "top_line" ["outline", "scroll"] (sp_top_line C_InvalidOutlineError C_InvalidScrollError) := by
  obtain ⟨f, fd, hm, F⟩ := D
  refine ⟨f, fd, hm, F.kp, F.binds (fun _ _ _ _ _ _ us hl => match us, hl with | [_, _], _ => rfl), FunOkG F sc_top_line (fun vs H Q E h => ?_) (fun cdv A outer s H vs Q E hr h => ?_), F.lk⟩
  · obtain ⟨_, _, _, _, _, _, rfl, _⟩ := h; rfl
  obtain ⟨v0, v2, T2, b0, b2, L, rfl, l, hv0, ht2, hg, q, x0, x1⟩ := h
  refine ⟨_, (pss_cons (ps_expr (pe_callG k_check_outline (hr.mono (by omega)) (fun σ => L2N.passAt (L2N.takes_of rfl rfl rfl rfl) σ) (pa_cons (pv 0) pa_nil)))
      (pss_cons (ps_expr (pe_callG k_check_scroll (hr.mono (by omega)) (fun σ => L2N.passAt (L2N.takes_of rfl rfl rfl rfl) σ) (pa_cons (pv 0) (pa_cons (pv 1) pa_nil))))
      (PSs.nox (pss_one (ps_ret (pe_callG k_top_of (hr.mono (by omega)) pas0 (pa_cons (pv 0) (pa_cons (pv 1) pa_nil)))))))), ?_⟩
  rw [show L2.start ["outline", "scroll"] [v0, v2] = [some v0, some v2] from rfl]
  refine Tr.of ?_ l
  repeat walk_at "hz"
  refine use_check_outline hv0 (fun e0 => ?_) x0
  obtain ⟨a, ns, rfl, hm, ho, rfl⟩ := hg e0
  have hl := ho.len
  repeat walk_at "hz"
  refine use_check_scroll hm hl.1 (by omega) ht2 (fun e2 => ?_) (fun e => x1 ⟨e0, e⟩)
  obtain ⟨s, rfl, s0, s1⟩ := scV_yes e2
  repeat walk_at "hz"
  exact use_top_of hm (by omega) (ho.top s1) fun t _ => q ⟨e0, e2⟩ _
def sp_view (C_InvalidHeightError C_InvalidOutlineError C_InvalidScrollError : Addr) : Sp := fun vs H Q E => ∃ (v0 v1 v2 : V) (T1 T2 : String) (b0 b2 : Bool) (L : Lg), vs = [v0, v1, v2] ∧ Led H (L) ∧ (OutIs L v0 b0) ∧ (HasTy L v1 T1) ∧ (HasTy L v2 T2) ∧ (b0 = true → ∃ a ns, v0 = .ref a ∧ (a, HO.lst (ns.map V.int)) ∈ L ∧ Outline ns ∧ scV (lsI ns) v2 = b2) ∧ ((b0 = true ∧ htV v1 = true ∧ b2 = true) → (∀ (v : V) (N : Lg), Tr ((N ++ L)) (fun H => Q (v) H))) ∧ ((b0 = false) → Tr (L) (fun H => E (.ref C_InvalidOutlineError) none H)) ∧ ((b0 = true ∧ htV v1 = false) → Tr (L) (fun H => E (.ref C_InvalidHeightError) none H)) ∧ ((b0 = true ∧ htV v1 = true ∧ b2 = false) → Tr (L) (fun H => E (.ref C_InvalidScrollError) none H))
theorem use_view {L : Lg} {Q : VK} {E : XK} {v0 v1 v2 : V} {T1 T2 : String} {b0 b2 : Bool} (hv0 : OutIs L v0 b0) (ht1 : HasTy L v1 T1) (ht2 : HasTy L v2 T2) (hg : b0 = true → ∃ a ns, v0 = .ref a ∧ (a, HO.lst (ns.map V.int)) ∈ L ∧ Outline ns ∧ scV (lsI ns) v2 = b2) (q : (b0 = true ∧ htV v1 = true ∧ b2 = true) → (∀ (v : V) (N : Lg), Tr ((N ++ L)) (fun H => Q (v) H))) (x0 : (b0 = false) → Tr (L) (fun H => E (.ref C_InvalidOutlineError) none H)) (x1 : (b0 = true ∧ htV v1 = false) → Tr (L) (fun H => E (.ref C_InvalidHeightError) none H)) (x2 : (b0 = true ∧ htV v1 = true ∧ b2 = false) → Tr (L) (fun H => E (.ref C_InvalidScrollError) none H)) : Tr L fun H => sp_view C_InvalidHeightError C_InvalidOutlineError C_InvalidScrollError [v0, v1, v2] H Q E :=
  fun H l => ⟨v0, v1, v2, T1, T2, b0, b2, L, rfl, l, hv0, ht1, ht2, hg, q, x0, x1, x2⟩

theorem ok_view {C_InvalidHeightError C_InvalidOutlineError C_InvalidScrollError : Addr} (D : Df K mg "view" s_view) (B : Blt mg) (k_view_of : Ok P w K mg base CX0 2 "view_of" ["outline", "height", "scroll"] sp_view_of) (k_check_arguments : Ok P w K mg base (L2N.CX P w) 4 "check_arguments" ["outline", "height", "scroll"] (sp_check_arguments C_InvalidHeightError C_InvalidOutlineError C_InvalidScrollError)) : Ok P w K mg base (L2N.CX P w) 5 "view" ["outline", "height", "scroll"] (sp_view C_InvalidHeightError C_InvalidOutlineError C_InvalidScrollError) := by
  obtain ⟨f, fd, hm, F⟩ := D
  refine ⟨f, fd, hm, F.kp, F.binds (fun _ _ _ _ _ _ us hl => match us, hl with | [_, _, _], _ => rfl), FunOkG F sc_view (fun vs H Q E h => ?_) (fun cdv A outer s H vs Q E hr h => ?_), F.lk⟩
  · obtain ⟨_, _, _, _, _, _, _, _, rfl, _⟩ := h; rfl
  obtain ⟨v0, v1, v2, T1, T2, b0, b2, L, rfl, l, hv0, ht1, ht2, hg, q, x0, x1, x2⟩ := h
  refine ⟨_, (pss_cons (ps_expr (pe_callG k_check_arguments (hr.mono (by omega)) (fun σ => L2N.passAt (L2N.takes_of rfl rfl rfl rfl) σ) (pa_cons (pv 0) (pa_cons (pv 1) (pa_cons (pv 2) pa_nil)))))
      (PSs.nox (pss_one (ps_ret (pe_callG k_view_of (hr.mono (by omega)) pas0 (pa_cons (pv 0) (pa_cons (pv 1) (pa_cons (pv 2) pa_nil)))))))), ?_⟩
  rw [show L2.start ["outline", "height", "scroll"] [v0, v1, v2] = [some v0, some v1, some v2] from rfl]
  refine Tr.of ?_ l
  repeat walk_at "hz"
  refine use_check_arguments hv0 ht1 ht2 hg (fun ⟨e0, e1, e2⟩ => ?_) x0 x1 x2
  obtain ⟨a, ns, rfl, hm, ho, rfl⟩ := hg e0
  obtain ⟨s, rfl, s0, s1⟩ := scV_yes e2
  obtain ⟨h, rfl, k0, k1⟩ := htV_yes e1
  repeat walk_at "hz"
  exact use_view_of hm ho k0 k1 s0 s1 fun t p _ => q ⟨e0, e1, e2⟩ _ [_]
def sp_shown_lines (C_InvalidHeightError C_InvalidOutlineError C_InvalidScrollError : Addr) : Sp := fun vs H Q E => ∃ (v0 v1 v2 : V) (T1 T2 : String) (b0 b2 : Bool) (L : Lg), vs = [v0, v1, v2] ∧ Led H (L) ∧ (OutIs L v0 b0) ∧ (HasTy L v1 T1) ∧ (HasTy L v2 T2) ∧ (b0 = true → ∃ a ns, v0 = .ref a ∧ (a, HO.lst (ns.map V.int)) ∈ L ∧ Outline ns ∧ scV (lsI ns) v2 = b2) ∧ ((b0 = true ∧ htV v1 = true ∧ b2 = true) → (∀ (v : V) (N : Lg), Tr ((N ++ L)) (fun H => Q (v) H))) ∧ ((b0 = false) → Tr (L) (fun H => E (.ref C_InvalidOutlineError) none H)) ∧ ((b0 = true ∧ htV v1 = false) → Tr (L) (fun H => E (.ref C_InvalidHeightError) none H)) ∧ ((b0 = true ∧ htV v1 = true ∧ b2 = false) → Tr (L) (fun H => E (.ref C_InvalidScrollError) none H))
theorem use_shown_lines {L : Lg} {Q : VK} {E : XK} {v0 v1 v2 : V} {T1 T2 : String} {b0 b2 : Bool} (hv0 : OutIs L v0 b0) (ht1 : HasTy L v1 T1) (ht2 : HasTy L v2 T2) (hg : b0 = true → ∃ a ns, v0 = .ref a ∧ (a, HO.lst (ns.map V.int)) ∈ L ∧ Outline ns ∧ scV (lsI ns) v2 = b2) (q : (b0 = true ∧ htV v1 = true ∧ b2 = true) → (∀ (v : V) (N : Lg), Tr ((N ++ L)) (fun H => Q (v) H))) (x0 : (b0 = false) → Tr (L) (fun H => E (.ref C_InvalidOutlineError) none H)) (x1 : (b0 = true ∧ htV v1 = false) → Tr (L) (fun H => E (.ref C_InvalidHeightError) none H)) (x2 : (b0 = true ∧ htV v1 = true ∧ b2 = false) → Tr (L) (fun H => E (.ref C_InvalidScrollError) none H)) : Tr L fun H => sp_shown_lines C_InvalidHeightError C_InvalidOutlineError C_InvalidScrollError [v0, v1, v2] H Q E :=
  fun H l => ⟨v0, v1, v2, T1, T2, b0, b2, L, rfl, l, hv0, ht1, ht2, hg, q, x0, x1, x2⟩

theorem ok_shown_lines {C_InvalidHeightError C_InvalidOutlineError C_InvalidScrollError : Addr} (D : Df K mg "shown_lines" s_shown_lines) (B : Blt mg) (k_shown_of : Ok P w K mg base CX0 2 "shown_of" ["outline", "height", "scroll"] sp_shown_of) (k_check_arguments : Ok P w K mg base (L2N.CX P w) 4 "check_arguments" ["outline", "height", "scroll"] (sp_check_arguments C_InvalidHeightError C_InvalidOutlineError C_InvalidScrollError)) : Ok P w K mg base (L2N.CX P w) 5 "shown_lines" ["outline", "height", "scroll"] (sp_shown_lines C_InvalidHeightError C_InvalidOutlineError C_InvalidScrollError) := by
  obtain ⟨f, fd, hm, F⟩ := D
  refine ⟨f, fd, hm, F.kp, F.binds (fun _ _ _ _ _ _ us hl => match us, hl with | [_, _, _], _ => rfl), FunOkG F sc_shown_lines (fun vs H Q E h => ?_) (fun cdv A outer s H vs Q E hr h => ?_), F.lk⟩
  · obtain ⟨_, _, _, _, _, _, _, _, rfl, _⟩ := h; rfl
  obtain ⟨v0, v1, v2, T1, T2, b0, b2, L, rfl, l, hv0, ht1, ht2, hg, q, x0, x1, x2⟩ := h
  refine ⟨_, (pss_cons (ps_expr (pe_callG k_check_arguments (hr.mono (by omega)) (fun σ => L2N.passAt (L2N.takes_of rfl rfl rfl rfl) σ) (pa_cons (pv 0) (pa_cons (pv 1) (pa_cons (pv 2) pa_nil)))))
      (PSs.nox (pss_one (ps_ret (pe_callG k_shown_of (hr.mono (by omega)) pas0 (pa_cons (pv 0) (pa_cons (pv 1) (pa_cons (pv 2) pa_nil)))))))), ?_⟩
  rw [show L2.start ["outline", "height", "scroll"] [v0, v1, v2] = [some v0, some v1, some v2] from rfl]
  refine Tr.of ?_ l
  repeat walk_at "hz"
  refine use_check_arguments hv0 ht1 ht2 hg (fun ⟨e0, e1, e2⟩ => ?_) x0 x1 x2
  obtain ⟨a, ns, rfl, hm, ho, rfl⟩ := hg e0
  obtain ⟨s, rfl, s0, s1⟩ := scV_yes e2
  obtain ⟨h, rfl, k0, k1⟩ := htV_yes e1
  repeat walk_at "hz"
  exact use_shown_of hm ho k0 k1 s0 s1 fun v N => q ⟨e0, e1, e2⟩ v N
def sp_scrolls_for (C_InvalidHeightError C_InvalidLineError C_InvalidOutlineError : Addr) : Sp := fun vs H Q E => ∃ (v0 v1 v3 : V) (T1 T3 : String) (b0 b3 : Bool) (L : Lg), vs = [v0, v1, v3] ∧ Led H (L) ∧ (OutIs L v0 b0) ∧ (HasTy L v1 T1) ∧ (HasTy L v3 T3) ∧ (b0 = true → ∃ a ns, v0 = .ref a ∧ (a, HO.lst (ns.map V.int)) ∈ L ∧ Outline ns ∧ rgV ns.length v3 = b3) ∧ ((b0 = true ∧ htV v1 = true ∧ b3 = true) → (∀ (v : V) (N : Lg), Tr ((N ++ L)) (fun H => Q (v) H))) ∧ ((b0 = false) → Tr (L) (fun H => E (.ref C_InvalidOutlineError) none H)) ∧ ((b0 = true ∧ htV v1 = false) → Tr (L) (fun H => E (.ref C_InvalidHeightError) none H)) ∧ ((b0 = true ∧ htV v1 = true ∧ b3 = false) → Tr (L) (fun H => E (.ref C_InvalidLineError) none H))
theorem use_scrolls_for {L : Lg} {Q : VK} {E : XK} {v0 v1 v3 : V} {T1 T3 : String} {b0 b3 : Bool} (hv0 : OutIs L v0 b0) (ht1 : HasTy L v1 T1) (ht3 : HasTy L v3 T3) (hg : b0 = true → ∃ a ns, v0 = .ref a ∧ (a, HO.lst (ns.map V.int)) ∈ L ∧ Outline ns ∧ rgV ns.length v3 = b3) (q : (b0 = true ∧ htV v1 = true ∧ b3 = true) → (∀ (v : V) (N : Lg), Tr ((N ++ L)) (fun H => Q (v) H))) (x0 : (b0 = false) → Tr (L) (fun H => E (.ref C_InvalidOutlineError) none H)) (x1 : (b0 = true ∧ htV v1 = false) → Tr (L) (fun H => E (.ref C_InvalidHeightError) none H)) (x2 : (b0 = true ∧ htV v1 = true ∧ b3 = false) → Tr (L) (fun H => E (.ref C_InvalidLineError) none H)) : Tr L fun H => sp_scrolls_for C_InvalidHeightError C_InvalidLineError C_InvalidOutlineError [v0, v1, v3] H Q E :=
  fun H l => ⟨v0, v1, v3, T1, T3, b0, b3, L, rfl, l, hv0, ht1, ht3, hg, q, x0, x1, x2⟩

theorem ok_scrolls_for {C_InvalidHeightError C_InvalidLineError C_InvalidOutlineError : Addr} (D : Df K mg "scrolls_for" s_scrolls_for) (B : Blt mg) (k_check_outline : Ok P w K mg base (L2N.CX P w) 3 "check_outline" ["outline"] (sp_check_outline C_InvalidOutlineError)) (k_check_line : Ok P w K mg base (L2N.CX P w) 2 "check_line" ["outline", "line"] (sp_check_line C_InvalidLineError)) (k_check_height : Ok P w K mg base (L2N.CX P w) 2 "check_height" ["height"] (sp_check_height C_InvalidHeightError)) (k_interval_for : Ok P w K mg base CX0 1 "interval_for" ["outline", "height", "line"] sp_interval_for) : Ok P w K mg base (L2N.CX P w) 4 "scrolls_for" ["outline", "height", "line"] (sp_scrolls_for C_InvalidHeightError C_InvalidLineError C_InvalidOutlineError) := by
  obtain ⟨f, fd, hm, F⟩ := D
  refine ⟨f, fd, hm, F.kp, F.binds (fun _ _ _ _ _ _ us hl => match us, hl with | [_, _, _], _ => rfl), FunOkG F sc_scrolls_for (fun vs H Q E h => ?_) (fun cdv A outer s H vs Q E hr h => ?_), F.lk⟩
  · obtain ⟨_, _, _, _, _, _, _, _, rfl, _⟩ := h; rfl
  obtain ⟨v0, v1, v3, T1, T3, b0, b3, L, rfl, l, hv0, ht1, ht3, hg, q, x0, x1, x2⟩ := h
  refine ⟨_, (pss_cons (ps_expr (pe_callG k_check_outline (hr.mono (by omega)) (fun σ => L2N.passAt (L2N.takes_of rfl rfl rfl rfl) σ) (pa_cons (pv 0) pa_nil)))
      (pss_cons (ps_expr (pe_callG k_check_height (hr.mono (by omega)) (fun σ => L2N.passAt (L2N.takes_of rfl rfl rfl rfl) σ) (pa_cons (pv 1) pa_nil)))
      (pss_cons (ps_expr (pe_callG k_check_line (hr.mono (by omega)) (fun σ => L2N.passAt (L2N.takes_of rfl rfl rfl rfl) σ) (pa_cons (pv 0) (pa_cons (pv 2) pa_nil))))
      (PSs.nox (pss_one (ps_ret (pe_callG k_interval_for (hr.mono (by omega)) pas0 (pa_cons (pv 0) (pa_cons (pv 1) (pa_cons (pv 2) pa_nil)))))))))), ?_⟩
  rw [show L2.start ["outline", "height", "line"] [v0, v1, v3] = [some v0, some v1, some v3] from rfl]
  refine Tr.of ?_ l
  repeat walk_at "hz"
  refine use_check_outline hv0 (fun e0 => ?_) x0
  obtain ⟨a, ns, rfl, hm, ho, rfl⟩ := hg e0
  have hl := ho.len
  repeat walk_at "hz"
  refine use_check_height ht1 (fun e1 => ?_) (fun e => x1 ⟨e0, e⟩)
  obtain ⟨h, rfl, k0, k1⟩ := htV_yes e1
  repeat walk_at "hz"
  refine use_check_line hm ht3 (fun e3 => ?_) (fun e => x2 ⟨e0, e1, e⟩)
  obtain ⟨i, rfl, i0, i1⟩ := rgV_yes e3
  repeat walk_at "hz"
  exact use_interval_for hm i0 i1 (by omega) k0 k1 fun v N _ => q ⟨e0, e1, e3⟩ v N
def sp_scroll_to_show (C_InvalidHeightError C_InvalidLineError C_InvalidOutlineError C_InvalidScrollError C_TooDeepError : Addr) : Sp := fun vs H Q E => ∃ (v0 v1 v2 v3 : V) (T1 T2 T3 : String) (b0 b2 b3 dp : Bool) (L : Lg), vs = [v0, v1, v2, v3] ∧ Led H (L) ∧ (OutIs L v0 b0) ∧ (HasTy L v1 T1) ∧ (HasTy L v2 T2) ∧ (HasTy L v3 T3) ∧ (b0 = true → ∃ a ns, v0 = .ref a ∧ (a, HO.lst (ns.map V.int)) ∈ L ∧ Outline ns ∧ scV (lsI ns) v2 = b2 ∧ rgV ns.length v3 = b3 ∧ (∀ h i, v1 = .int h → v3 = .int i → dpI ns h i = dp)) ∧ ((b0 = true ∧ htV v1 = true ∧ b2 = true ∧ b3 = true ∧ dp = false) → (∀ (v : V) (N : Lg), Tr ((N ++ L)) (fun H => Q (v) H))) ∧ ((b0 = false) → Tr (L) (fun H => E (.ref C_InvalidOutlineError) none H)) ∧ ((b0 = true ∧ htV v1 = false) → Tr (L) (fun H => E (.ref C_InvalidHeightError) none H)) ∧ ((b0 = true ∧ htV v1 = true ∧ b2 = false) → Tr (L) (fun H => E (.ref C_InvalidScrollError) none H)) ∧ ((b0 = true ∧ htV v1 = true ∧ b2 = true ∧ b3 = false) → Tr (L) (fun H => E (.ref C_InvalidLineError) none H)) ∧ (∀ (i : Int), (b0 = true ∧ htV v1 = true ∧ b2 = true ∧ b3 = true ∧ dp = true ∧ v3 = .int i) → ∀ dx : Addr, Tr ((dx, HO.xd [("line", .int i)]) :: L) (fun H => E (.ref C_TooDeepError) (some dx) H))
theorem use_scroll_to_show {L : Lg} {Q : VK} {E : XK} {v0 v1 v2 v3 : V} {T1 T2 T3 : String} {b0 b2 b3 dp : Bool} (hv0 : OutIs L v0 b0) (ht1 : HasTy L v1 T1) (ht2 : HasTy L v2 T2) (ht3 : HasTy L v3 T3) (hg : b0 = true → ∃ a ns, v0 = .ref a ∧ (a, HO.lst (ns.map V.int)) ∈ L ∧ Outline ns ∧ scV (lsI ns) v2 = b2 ∧ rgV ns.length v3 = b3 ∧ (∀ h i, v1 = .int h → v3 = .int i → dpI ns h i = dp)) (q : (b0 = true ∧ htV v1 = true ∧ b2 = true ∧ b3 = true ∧ dp = false) → (∀ (v : V) (N : Lg), Tr ((N ++ L)) (fun H => Q (v) H))) (x0 : (b0 = false) → Tr (L) (fun H => E (.ref C_InvalidOutlineError) none H)) (x1 : (b0 = true ∧ htV v1 = false) → Tr (L) (fun H => E (.ref C_InvalidHeightError) none H)) (x2 : (b0 = true ∧ htV v1 = true ∧ b2 = false) → Tr (L) (fun H => E (.ref C_InvalidScrollError) none H)) (x3 : (b0 = true ∧ htV v1 = true ∧ b2 = true ∧ b3 = false) → Tr (L) (fun H => E (.ref C_InvalidLineError) none H)) (x4 : ∀ (i : Int), (b0 = true ∧ htV v1 = true ∧ b2 = true ∧ b3 = true ∧ dp = true ∧ v3 = .int i) → ∀ dx : Addr, Tr ((dx, HO.xd [("line", .int i)]) :: L) (fun H => E (.ref C_TooDeepError) (some dx) H)) : Tr L fun H => sp_scroll_to_show C_InvalidHeightError C_InvalidLineError C_InvalidOutlineError C_InvalidScrollError C_TooDeepError [v0, v1, v2, v3] H Q E :=
  fun H l => ⟨v0, v1, v2, v3, T1, T2, T3, b0, b2, b3, dp, L, rfl, l, hv0, ht1, ht2, ht3, hg, q, x0, x1, x2, x3, x4⟩

theorem ok_scroll_to_show {C_InvalidHeightError C_InvalidLineError C_InvalidOutlineError C_InvalidScrollError C_TooDeepError : Addr} (D : Df K mg "scroll_to_show" s_scroll_to_show) (B : Blt mg) (X_TooDeepError : ErrI P w K mg base "TooDeepError" "line" C_TooDeepError) (k_check_line : Ok P w K mg base (L2N.CX P w) 2 "check_line" ["outline", "line"] (sp_check_line C_InvalidLineError)) (k_nearest_for : Ok P w K mg base CX0 2 "nearest_for" ["outline", "height", "scroll", "line"] sp_nearest_for) (k_check_arguments : Ok P w K mg base (L2N.CX P w) 4 "check_arguments" ["outline", "height", "scroll"] (sp_check_arguments C_InvalidHeightError C_InvalidOutlineError C_InvalidScrollError)) : Ok P w K mg base (L2N.CX P w) 5 "scroll_to_show" ["outline", "height", "scroll", "line"] (sp_scroll_to_show C_InvalidHeightError C_InvalidLineError C_InvalidOutlineError C_InvalidScrollError C_TooDeepError) := by
  obtain ⟨f, fd, hm, F⟩ := D
  refine ⟨f, fd, hm, F.kp, F.binds (fun _ _ _ _ _ _ us hl => match us, hl with | [_, _, _, _], _ => rfl), FunOkG F sc_scroll_to_show (fun vs H Q E h => ?_) (fun cdv A outer s H vs Q E hr h => ?_), F.lk⟩
  · obtain ⟨_, _, _, _, _, _, _, _, _, _, _, _, rfl, _⟩ := h; rfl
  obtain ⟨v0, v1, v2, v3, T1, T2, T3, b0, b2, b3, dp, L, rfl, l, hv0, ht1, ht2, ht3, hg, q, x0, x1, x2, x3, x4⟩ := h
  refine ⟨_, (pss_cons (ps_expr (pe_callG k_check_arguments (hr.mono (by omega)) (fun σ => L2N.passAt (L2N.takes_of rfl rfl rfl rfl) σ) (pa_cons (pv 0) (pa_cons (pv 1) (pa_cons (pv 2) pa_nil)))))
      (pss_cons (ps_expr (pe_callG k_check_line (hr.mono (by omega)) (fun σ => L2N.passAt (L2N.takes_of rfl rfl rfl rfl) σ) (pa_cons (pv 0) (pa_cons (pv 3) pa_nil))))
      (pss_cons (ps_set (i := 4) sc_scroll_to_show.nd rfl (.inl rfl) (pe_callG k_nearest_for (hr.mono (by omega)) pas0 (pa_cons (pv 0) (pa_cons (pv 1) (pa_cons (pv 2) (pa_cons (pv 3) pa_nil))))))
      (pss_cons (ps_if (pt_cmpR op_isN1 (pv 4) pe_non (nomark _)) (pss_one (ps_raiseI rfl (L2N.takes_of rfl rfl rfl rfl) (pe_mkI X_TooDeepError hr.rm (by exact (pa_cons (pv 3) pa_nil)) (by omega))))
        pss_nil)
      (PSs.nox (pss_one (ps_ret (pv 4)))))))), ?_⟩
  rw [show L2.start ["outline", "height", "scroll", "line", "nearest"] [v0, v1, v2, v3] = [some v0, some v1, some v2, some v3, none] from rfl]
  refine Tr.of ?_ l
  repeat walk_at "hz"
  refine use_check_arguments hv0 ht1 ht2 (fun e => by obtain ⟨a, ns, g1, g2, g3, g4, _⟩ := hg e; exact ⟨a, ns, g1, g2, g3, g4⟩) (fun ⟨e0, e1, e2⟩ => ?_) x0 x1 x2
  obtain ⟨a, ns, rfl, hm, ho, rfl, rfl, hdp⟩ := hg e0
  have hl := ho.len
  obtain ⟨s, rfl, s0, s1⟩ := scV_yes e2
  obtain ⟨h, rfl, k0, k1⟩ := htV_yes e1
  repeat walk_at "hz"
  refine use_check_line hm ht3 (fun e3 => ?_) (fun e => x3 ⟨e0, e1, e2, e⟩)
  obtain ⟨i, rfl, i0, i1⟩ := rgV_yes e3
  have hdp := hdp h i rfl rfl
  repeat walk_at "hz"
  refine use_nearest_for hm i0 i1 (by omega) k0 k1 fun v N hv => ?_
  rcases hv with ⟨c, rfl⟩ | ⟨c, z, rfl⟩
  · repeat walk_at "hz"
    refine (x4 i ⟨e0, e1, e2, e3, hdp.symm.trans c, rfl⟩ _).sub ?_
    exact .take .head (by walk_at "sb")
  · repeat walk_at "hz"
    exact q ⟨e0, e1, e2, e3, hdp.symm.trans c⟩ _ N
def sp_scrolls_for_both (C_InvalidHeightError C_InvalidLineError C_InvalidOutlineError : Addr) : Sp := fun vs H Q E => ∃ (v0 v1 v3 v4 : V) (T1 T3 T4 : String) (b0 b3 b4 : Bool) (L : Lg), vs = [v0, v1, v3, v4] ∧ Led H (L) ∧ (OutIs L v0 b0) ∧ (HasTy L v1 T1) ∧ (HasTy L v3 T3) ∧ (HasTy L v4 T4) ∧ (b0 = true → ∃ a ns, v0 = .ref a ∧ (a, HO.lst (ns.map V.int)) ∈ L ∧ Outline ns ∧ rgV ns.length v3 = b3 ∧ rgV ns.length v4 = b4) ∧ ((b0 = true ∧ htV v1 = true ∧ b3 = true ∧ b4 = true) → (∀ (v : V) (N : Lg), Tr ((N ++ L)) (fun H => Q (v) H))) ∧ ((b0 = false) → Tr (L) (fun H => E (.ref C_InvalidOutlineError) none H)) ∧ ((b0 = true ∧ htV v1 = false) → Tr (L) (fun H => E (.ref C_InvalidHeightError) none H)) ∧ ((b0 = true ∧ htV v1 = true ∧ (b3 = false ∨ b4 = false)) → Tr (L) (fun H => E (.ref C_InvalidLineError) none H))
theorem use_scrolls_for_both {L : Lg} {Q : VK} {E : XK} {v0 v1 v3 v4 : V} {T1 T3 T4 : String} {b0 b3 b4 : Bool} (hv0 : OutIs L v0 b0) (ht1 : HasTy L v1 T1) (ht3 : HasTy L v3 T3) (ht4 : HasTy L v4 T4) (hg : b0 = true → ∃ a ns, v0 = .ref a ∧ (a, HO.lst (ns.map V.int)) ∈ L ∧ Outline ns ∧ rgV ns.length v3 = b3 ∧ rgV ns.length v4 = b4) (q : (b0 = true ∧ htV v1 = true ∧ b3 = true ∧ b4 = true) → (∀ (v : V) (N : Lg), Tr ((N ++ L)) (fun H => Q (v) H))) (x0 : (b0 = false) → Tr (L) (fun H => E (.ref C_InvalidOutlineError) none H)) (x1 : (b0 = true ∧ htV v1 = false) → Tr (L) (fun H => E (.ref C_InvalidHeightError) none H)) (x2 : (b0 = true ∧ htV v1 = true ∧ (b3 = false ∨ b4 = false)) → Tr (L) (fun H => E (.ref C_InvalidLineError) none H)) : Tr L fun H => sp_scrolls_for_both C_InvalidHeightError C_InvalidLineError C_InvalidOutlineError [v0, v1, v3, v4] H Q E :=
  fun H l => ⟨v0, v1, v3, v4, T1, T3, T4, b0, b3, b4, L, rfl, l, hv0, ht1, ht3, ht4, hg, q, x0, x1, x2⟩

theorem ok_scrolls_for_both {C_InvalidHeightError C_InvalidLineError C_InvalidOutlineError : Addr} (D : Df K mg "scrolls_for_both" s_scrolls_for_both) (B : Blt mg) (k_check_outline : Ok P w K mg base (L2N.CX P w) 3 "check_outline" ["outline"] (sp_check_outline C_InvalidOutlineError)) (k_check_line : Ok P w K mg base (L2N.CX P w) 2 "check_line" ["outline", "line"] (sp_check_line C_InvalidLineError)) (k_check_height : Ok P w K mg base (L2N.CX P w) 2 "check_height" ["height"] (sp_check_height C_InvalidHeightError)) (k_interval_for : Ok P w K mg base CX0 1 "interval_for" ["outline", "height", "line"] sp_interval_for) : Ok P w K mg base (L2N.CX P w) 4 "scrolls_for_both" ["outline", "height", "line", "other"] (sp_scrolls_for_both C_InvalidHeightError C_InvalidLineError C_InvalidOutlineError) := by
  obtain ⟨f, fd, hm, F⟩ := D
  refine ⟨f, fd, hm, F.kp, F.binds (fun _ _ _ _ _ _ us hl => match us, hl with | [_, _, _, _], _ => rfl), FunOkG F sc_scrolls_for_both (fun vs H Q E h => ?_) (fun cdv A outer s H vs Q E hr h => ?_), F.lk⟩
  · obtain ⟨_, _, _, _, _, _, _, _, _, _, _, rfl, _⟩ := h; rfl
  obtain ⟨v0, v1, v3, v4, T1, T3, T4, b0, b3, b4, L, rfl, l, hv0, ht1, ht3, ht4, hg, q, x0, x1, x2⟩ := h
  refine ⟨_, (pss_cons (ps_expr (pe_callG k_check_outline (hr.mono (by omega)) (fun σ => L2N.passAt (L2N.takes_of rfl rfl rfl rfl) σ) (pa_cons (pv 0) pa_nil)))
      (pss_cons (ps_expr (pe_callG k_check_height (hr.mono (by omega)) (fun σ => L2N.passAt (L2N.takes_of rfl rfl rfl rfl) σ) (pa_cons (pv 1) pa_nil)))
      (pss_cons (ps_expr (pe_callG k_check_line (hr.mono (by omega)) (fun σ => L2N.passAt (L2N.takes_of rfl rfl rfl rfl) σ) (pa_cons (pv 0) (pa_cons (pv 2) pa_nil))))
      (pss_cons (ps_expr (pe_callG k_check_line (hr.mono (by omega)) (fun σ => L2N.passAt (L2N.takes_of rfl rfl rfl rfl) σ) (pa_cons (pv 0) (pa_cons (pv 3) pa_nil))))
      (PSs.nox (pss_cons (ps_par (i := 4) (j := 5) (by rfl) sc_scrolls_for_both.nd rfl rfl (by decide) rfl rfl (pa_cons (pe_callG k_interval_for (hr.mono (by omega)) pas0 (pa_cons (pv 0) (pa_cons (pv 1) (pa_cons (pv 2) pa_nil)))) (pa_cons (pe_callG k_interval_for (hr.mono (by omega)) pas0 (pa_cons (pv 0) (pa_cons (pv 1) (pa_cons (pv 3) pa_nil)))) pa_nil)) (by rfl))
      (pss_cons (ps_if (PW.pt (pw_or (pt_cmpR op_isN1 (pv 4) pe_non (nomark _)) (pw_or1 (pt_cmpR op_isN1 (pv 5) pe_non (nomark _))))) (pss_one (ps_ret pe_non))
        pss_nil)
      (pss_cons (ps_par (i := 6) (j := 7) (by rfl) sc_scrolls_for_both.nd rfl rfl (by decide) rfl rfl (pa_cons (pe_callB (c_max2 rfl) rfl B.max_ boot_max (pa_cons (pe_ix ix_tup (pv 4) pe_int (fun _ _ => rfl)) (pa_cons (pe_ix ix_tup (pv 5) pe_int (fun _ _ => rfl)) pa_nil))) (pa_cons (pe_callB (c_min2 rfl) rfl B.min_ boot_min (pa_cons (pe_ix ix_tup (pv 4) pe_int (fun _ _ => rfl)) (pa_cons (pe_ix ix_tup (pv 5) pe_int (fun _ _ => rfl)) pa_nil))) pa_nil)) (by rfl))
      (pss_one (ps_ret (pe_ifExp (pt_cmpR op_le (pv 6) (pv 7) (nomark _)) (pe_tup (pa_cons (pv 6) (pa_cons (pv 7) pa_nil))) pe_non))))))))))), ?_⟩
  rw [show L2.start ["outline", "height", "line", "other", "first", "second", "least", "greatest"] [v0, v1, v3, v4] = [some v0, some v1, some v3, some v4, none, none, none, none] from rfl]
  refine Tr.of ?_ l
  repeat walk_at "hz"
  refine use_check_outline hv0 (fun e0 => ?_) x0
  obtain ⟨a, ns, rfl, hm, ho, rfl, rfl⟩ := hg e0
  have hl := ho.len
  repeat walk_at "hz"
  refine use_check_height ht1 (fun e1 => ?_) (fun e => x1 ⟨e0, e⟩)
  obtain ⟨h, rfl, k0, k1⟩ := htV_yes e1
  repeat walk_at "hz"
  refine use_check_line hm ht3 (fun e3 => ?_) (fun e => x2 ⟨e0, e1, .inl e⟩)
  obtain ⟨i, rfl, i0, i1⟩ := rgV_yes e3
  repeat walk_at "hz"
  refine use_check_line hm ht4 (fun e4 => ?_) (fun e => x2 ⟨e0, e1, .inr e⟩)
  obtain ⟨j, rfl, j0, j1⟩ := rgV_yes e4
  replace q := q ⟨e0, e1, e3, e4⟩
  clear x0 x1 x2
  repeat walk_at "hz"
  refine use_interval_for hm i0 i1 (by omega) k0 k1 fun v N hv => ?_
  repeat walk_at "hz"
  refine use_interval_for (List.mem_append_right _ hm) j0 j1 (by omega) k0 k1 fun v2 N2 hv2 => ?_
  rcases hv with ⟨c, p, rfl, rfl⟩ | ⟨c, rfl, rfl⟩
  · rcases hv2 with ⟨c2, p2, rfl, rfl⟩ | ⟨c2, rfl, rfl⟩
    · repeat walk_at "hz"
      refine t_iteD (fun c3 => ?_) fun c3 => ?_
      · repeat walk_at "hz"
        exact q _ [_, _, _]
      · repeat walk_at "hz"
        exact q _ [_, _]
    · repeat walk_at "hz"
      exact q _ [_]
  · repeat walk_at "hz"
    exact q _ N2

/-! ### the law's source of draws -/
def Gen (m : Nat) (o : HO) : Prop := ∃ s0 s1 s2 : Int, o = .lst [.int s0, .int s1, .int s2] ∧ 0 ≤ s0 ∧ 0 ≤ s1 ∧ s1 < 2 ^ 400 ∧ 0 ≤ s2 ∧ s2 ≤ m
theorem Gen.le {m n : Nat} {o : HO} (h : Gen m o) (e : m ≤ n) : Gen n o := by
  obtain ⟨s0, s1, s2, h1, h2, h3, h4, h5, h6⟩ := h
  exact ⟨s0, s1, s2, h1, h2, h3, h4, h5, by omega⟩
theorem cube_lt {x b : Int} (h0 : 0 ≤ x) (h1 : x < b) : 0 ≤ x ^ 3 ∧ x ^ 3 < b ^ 3 := by
  obtain ⟨n, rfl⟩ := Int.eq_ofNat_of_zero_le h0
  obtain ⟨m, rfl⟩ := Int.eq_ofNat_of_zero_le (show 0 ≤ b by omega)
  have := Nat.pow_lt_pow_left (show n < m by omega) (n := 3) (by decide)
  rw [← Int.natCast_pow, ← Int.natCast_pow]
  omega
def sp_law_source  : Sp := fun vs H Q E => ∃ (c k : Int) (L : Lg), vs = [.int c, .int k] ∧ Led H (L) ∧ (0 ≤ k) ∧ (k < 1000) ∧ ∀ (p : Addr) (o : HO), (Gen 0 o) → Tr ((p, o) :: L) (fun H => Q (.ref p) H)
theorem use_law_source {L : Lg} {Q : VK} {E : XK} {c k : Int} (h0 : 0 ≤ k) (h1 : k < 1000) (q : ∀ (p : Addr) (o : HO), (Gen 0 o) → Tr ((p, o) :: L) (fun H => Q (.ref p) H)) : Tr L fun H => sp_law_source [.int c, .int k] H Q E :=
  fun H l => ⟨c, k, L, rfl, l, h0, h1, q⟩

theorem ok_law_source (D : Df K mg "_law_source" s_law_source) (B : Blt mg) : Ok P w K mg base CX0 1 "_law_source" ["cell", "index"] sp_law_source := by
  obtain ⟨f, fd, hm, F⟩ := D
  refine ⟨f, fd, hm, F.kp, F.binds (fun _ _ _ _ _ _ us hl => match us, hl with | [_, _], _ => rfl), FunOkG F sc_law_source (fun vs H Q E h => ?_) (fun cdv A outer s H vs Q E hr h => ?_), F.lk⟩
  · obtain ⟨_, _, _, rfl, _⟩ := h; rfl
  obtain ⟨c, k, L, rfl, l, h0, h1, q⟩ := h
  refine ⟨_, PSs.nox (pss_one (ps_ret (pe_lst (pa_cons (pe_callB (c_max2 rfl) rfl B.max_ boot_max (pa_cons pe_int (pa_cons (pe_op op_sub (pv 0) (pe_op op_powW pe_int pe_int)) pa_nil))) (pa_cons (pe_op op_add (pe_op op_add (pe_op op_powW (pe_op op_mod (pv 0) (pe_op op_add (pe_op op_powW pe_int pe_int) pe_int)) pe_int) (pe_op op_mulA pe_int (pv 1))) pe_int) (pa_cons pe_int pa_nil)))))), ?_⟩
  rw [show L2.start ["cell", "index"] [.int c, .int k] = [some (.int c), some (.int k)] from rfl]
  refine Tr.of ?_ l
  repeat walk_at "hz"
  refine t_rI (pow_ok 5 (by decide) (by decide) (by decide) (by decide)) ?_
  rw [show (10 : Int) ^ (18 : Int).toNat = 1000000000000000000 by decide]
  repeat walk_at "hz"
  refine t_rI (pow_ok 5 (by decide) (by decide) (by decide) (by decide)) ?_
  rw [show (10 : Int) ^ (38 : Int).toNat = 100000000000000000000000000000000000000 by decide]
  repeat walk_at "hz"
  have b1 := Int.emod_nonneg c (show (100000000000000000000000000000000000000 + 133 : Int) ≠ 0 by decide)
  have b2 := Int.emod_lt_of_pos c (show (0 : Int) < 100000000000000000000000000000000000000 + 133 by decide)
  generalize c % (100000000000000000000000000000000000000 + 133) = x at b1 b2 ⊢
  have b3 := cube_lt b1 b2
  refine t_rI (pow_ok 200 (by decide) (by omega) (by decide) (by decide)) ?_
  repeat walk_at "hz"
  refine q _ _ ⟨_, _, _, rfl, by omega, ?_, ?_, by omega, by omega⟩
  · show 0 ≤ x ^ 3 + 746773 * k + 316227766016837933
    omega
  · show x ^ 3 + 746773 * k + 316227766016837933 < 2 ^ 400
    have e : (100000000000000000000000000000000000000 + 133 : Int) ^ 3 < 2 ^ 399 := by decide
    omega
def sp_law_draw  : Sp := fun vs H Q E => ∃ (a : Addr) (c : Int) (m : Nat) (o : HO) (L : Lg), vs = [.ref a, .int c] ∧ Led H ((a, o) :: L) ∧ (Gen m o) ∧ (m ≤ 1000000000) ∧ (0 < c) ∧ (c < 2 ^ 200) ∧ ∀ (d : Int) (o' : HO), (0 ≤ d) → (d < c) → (Gen (m + 1) o') → Tr ((a, o') :: L) (fun H => Q (.int d) H)
theorem use_law_draw {L0  L : Lg} {Q : VK} {E : XK} {a : Addr} {c : Int} {m : Nat} {o : HO} (hp0 : Pick (a) (o) L0 L) (hs : Gen m o) (hm : m ≤ 1000000000) (h0 : 0 < c) (h1 : c < 2 ^ 200) (q : ∀ (d : Int) (o' : HO), (0 ≤ d) → (d < c) → (Gen (m + 1) o') → Tr ((a, o') :: L) (fun H => Q (.int d) H)) : Tr L0 fun H => sp_law_draw [.ref a, .int c] H Q E :=
  fun H l => ⟨a, c, m, o, L, rfl, l.pick hp0, hs, hm, h0, h1, q⟩

theorem ok_law_draw (D : Df K mg "_law_draw" s_law_draw) (B : Blt mg) : Ok P w K mg base CX0 1 "_law_draw" ["source", "count"] sp_law_draw := by
  obtain ⟨f, fd, hm, F⟩ := D
  refine ⟨f, fd, hm, F.kp, F.binds (fun _ _ _ _ _ _ us hl => match us, hl with | [_, _], _ => rfl), FunOkG F sc_law_draw (fun vs H Q E h => ?_) (fun cdv A outer s H vs Q E hr h => ?_), F.lk⟩
  · obtain ⟨_, _, _, _, _, rfl, _⟩ := h; rfl
  obtain ⟨a, c, m, o, L, rfl, l, hs, hm, h0, h1, q⟩ := h
  refine ⟨_, PSs.nox (pss_cons (ps_if (pt_cmpR op_gt (pe_ix ix_list (pv 0) pe_int (fun _ _ => rfl)) pe_int (nomark _)) (pss_cons (ps_set (i := 2) sc_law_draw.nd rfl (.inl rfl) (pe_op op_mod (pe_ix ix_list (pv 0) pe_int (fun _ _ => rfl)) (pv 1)))
      (pss_cons (ps_asg (pe_op op_fdivW (pe_ix ix_list (pv 0) pe_int (fun _ _ => rfl)) (pv 1)) (pg_sub (pv 0) pe_int set_list))
      (pss_one (ps_ret (pv 2)))))
        pss_nil)
      (pss_cons (ps_asg (pe_op op_add (pe_ix ix_list (pv 0) pe_int (fun _ _ => rfl)) pe_int) (pg_sub (pv 0) pe_int set_list))
      (pss_cons (ps_asg (pe_op op_mod (pe_op op_add (pe_op op_add (pe_op op_powW (pe_ix ix_list (pv 0) pe_int (fun _ _ => rfl)) pe_int) (pe_op op_mulA pe_int (pe_ix ix_list (pv 0) pe_int (fun _ _ => rfl)))) pe_int) (pe_op op_add (pe_op op_powW pe_int pe_int) pe_int)) (pg_sub (pv 0) pe_int set_list))
      (pss_one (ps_ret (pe_op op_mod (pe_op op_fdivW (pe_ix ix_list (pv 0) pe_int (fun _ _ => rfl)) (pe_op op_powW pe_int pe_int)) (pv 1))))))), ?_⟩
  rw [show L2.start ["source", "count", "digit"] [.ref a, .int c] = [some (.ref a), some (.int c), none] from rfl]
  refine Tr.of ?_ l
  repeat walk_at "hz"
  obtain ⟨s0, s1, s2, rfl, g0, g1, g2, g3, g4⟩ := hs
  repeat walk_at "hz"
  have hc : c.natAbs < 2 ^ 200 := by omega
  refine t_iteD (fun h2 => ?_) fun h2 => ?_
  · repeat walk_at "hz"
    refine t_rI (div_ok 200 (by decide) h0 hc (by decide)) ?_
    repeat walk_at "hz"
    refine t_setL .head rfl ?_
    repeat walk_at "hz"
    exact q _ _ (Int.emod_nonneg _ (by omega)) (Int.emod_lt_of_pos _ h0) ⟨_, _, _, rfl, Int.ediv_nonneg g0 (by omega), g1, g2, g3, by omega⟩
  · repeat walk_at "hz"
    refine t_setL .head rfl ?_
    repeat walk_at "hz"
    refine t_rI (pow_ok 400 (by decide) (by omega) (by decide) (by decide)) ?_
    repeat walk_at "hz"
    refine t_rI (pow_ok 5 (by decide) (by decide) (by decide) (by decide)) ?_
    rw [show (10 : Int) ^ (33 : Int).toNat = 1000000000000000000000000000000000 by decide]
    repeat walk_at "hz"
    generalize hx : (s1 ^ (3 : Int).toNat + 387420489 * (s2 + 1) + 5) % (1000000000000000000000000000000000 + 61) = x
    have b1 : 0 ≤ x := by rw [← hx]; exact Int.emod_nonneg _ (by decide)
    have b2 : x < 1000000000000000000000000000000000 + 61 := by rw [← hx]; exact Int.emod_lt_of_pos _ (by decide)
    refine t_setL .head rfl ?_
    repeat walk_at "hz"
    refine t_rI (pow_ok 5 (by decide) (by decide) (by decide) (by decide)) ?_
    rw [show (10 : Int) ^ (8 : Int).toNat = 100000000 by decide]
    repeat walk_at "hz"
    refine t_rI (div_ok 40 (by decide) (by decide) (by decide) (by decide)) ?_
    repeat walk_at "hz"
    exact q _ _ (Int.emod_nonneg _ (by omega)) (Int.emod_lt_of_pos _ h0) ⟨_, _, _, rfl, g0, b1, by omega, by omega, by omega⟩
def sp_law_cells (K : PySem.W.Frag) : Sp := fun vs H Q E => ∃ (a : Addr) (ns : List Int) (L : Lg), vs = [.ref a, .int 10] ∧ Led H (L) ∧ (Scr K L a ns) ∧ (ns.length ≤ 63) ∧ ∀ (p : Addr) (cs : List Int), (cs.length ≤ 11) → Tr ((p, .lst (cs.map V.int)) :: L) (fun H => Q (.ref p) H)
theorem use_law_cells {L : Lg} {Q : VK} {E : XK} {a : Addr} {ns : List Int} (hS : Scr K L a ns) (hl : ns.length ≤ 63) (q : ∀ (p : Addr) (cs : List Int), (cs.length ≤ 11) → Tr ((p, .lst (cs.map V.int)) :: L) (fun H => Q (.ref p) H)) : Tr L fun H => sp_law_cells K [.ref a, .int 10] H Q E :=
  fun H l => ⟨a, ns, L, rfl, l, hS, hl, q⟩

theorem ok_law_cells (D : Df K mg "_law_cells" s_law_cells) (B : Blt mg) : Ok P w K mg base CX0 1 "_law_cells" ["script", "count"] (sp_law_cells K) := by
  obtain ⟨f, fd, hm, F⟩ := D
  refine ⟨f, fd, hm, F.kp, F.binds (fun _ _ _ _ _ _ us hl => match us, hl with | [_, _], _ => rfl), FunOkG F sc_law_cells (fun vs H Q E h => ?_) (fun cdv A outer s H vs Q E hr h => ?_), F.lk⟩
  · obtain ⟨_, _, _, rfl, _⟩ := h; rfl
  obtain ⟨a, ns, L, rfl, l, hS, hl, q⟩ := h
  refine ⟨_, PSs.nox (pss_one (ps_ret (pe_op op_cat (pe_slice sl_list (pv 0) po_none (po_some (pv 1))) (pe_op op_rep (pe_lst (pa_cons pe_int pa_nil)) (pe_callTy c_int rfl B.int_ boot_int (pa_cons (pe_cmpR (op_eqD hr.rm.units) (pv 0) (pe_lst pa_nil) (nomark _)) pa_nil)))))), ?_⟩
  rw [show L2.start ["script", "count"] [.ref a, .int 10] = [some (.ref a), some (.int 10)] from rfl]
  refine Tr.of ?_ l
  repeat walk_at "hz"
  refine t_slSc hS fun c => ?_
  refine Tr.lcast (cut_ints ns none (some 10)) ?_
  have h8 : (cutI ns none (some 10)).length ≤ 10 := by
    rw [cutI_upto (by decide), List.length_take]; omega
  repeat walk_at "hz"
  refine t_eqSc (zs := []) hS.cons.cons.cons (by walk_at "mb") ?_
  repeat walk_at "hz"
  by_cases e : ns = []
  · rw [decide_eq_true e]
    repeat walk_at "hz"
    rename_i r
    refine (show Tr ((r, .lst (([0] : List Int).map V.int)) :: _) _ from ?_)
    refine t_catI (by walk_at "pk") (by walk_at "pk") (by rw [sizeLine_eq]; simp; omega) fun c6 => ?_
    exact (q c6 (cutI ns none (some 10) ++ [0]) (by simp; omega)).sub (by walk_at "sb")
  · rw [decide_eq_false e]
    repeat walk_at "hz"
    rename_i r
    refine (show Tr ((r, .lst (([] : List Int).map V.int)) :: _) _ from ?_)
    refine t_catI (by walk_at "pk") (by walk_at "pk") (by rw [sizeLine_eq]; simp; omega) fun c6 => ?_
    exact (q c6 (cutI ns none (some 10) ++ []) (by simp; omega)).sub (by walk_at "sb")
def sp_law_outline (K : PySem.W.Frag) : Sp := fun vs H Q E => ∃ (a z : Addr) (zs : List Int) (most : Int) (m : Nat) (o : HO) (L : Lg), vs = [.ref a, .ref z, .int most] ∧ Led H ((a, o) :: L) ∧ (Scr K L z zs) ∧ (Gen m o) ∧ (m ≤ 100000) ∧ (5 ≤ most) ∧ (most ≤ 100) ∧ ∀ (ns : List Int) (p : Addr) (o' : HO), (Outline ns) → ((ns.length : Int) ≤ most) → (Gen (m + 1000) o') → Tr ((p, .lst (ns.map V.int)) :: (a, o') :: L) (fun H => Q (.ref p) H)
theorem use_law_outline {L0  L : Lg} {Q : VK} {E : XK} {a z : Addr} {zs : List Int} {most : Int} {m : Nat} {o : HO} (hp0 : Pick (a) (o) L0 L) (hS : Scr K L z zs) (hs : Gen m o) (hm : m ≤ 100000) (h0 : 5 ≤ most) (h1 : most ≤ 100) (q : ∀ (ns : List Int) (p : Addr) (o' : HO), (Outline ns) → ((ns.length : Int) ≤ most) → (Gen (m + 1000) o') → Tr ((p, .lst (ns.map V.int)) :: (a, o') :: L) (fun H => Q (.ref p) H)) : Tr L0 fun H => sp_law_outline K [.ref a, .ref z, .int most] H Q E :=
  fun H l => ⟨a, z, zs, most, m, o, L, rfl, l.pick hp0, hS, hs, hm, h0, h1, q⟩

theorem ok_law_outline (D : Df K mg "_law_outline" s_law_outline) (B : Blt mg) (k__law_draw : Ok P w K mg base CX0 1 "_law_draw" ["source", "count"] sp_law_draw) : Ok P w K mg base CX0 2 "_law_outline" ["source", "script", "most"] (sp_law_outline K) := by
  obtain ⟨f, fd, hm, F⟩ := D
  refine ⟨f, fd, hm, F.kp, F.binds (fun _ _ _ _ _ _ us hl => match us, hl with | [_, _, _], _ => rfl), FunOkG F sc_law_outline (fun vs H Q E h => ?_) (fun cdv A outer s H vs Q E hr h => ?_), F.lk⟩
  · obtain ⟨_, _, _, _, _, _, _, rfl, _⟩ := h; rfl
  obtain ⟨a, z, zs, most, m, o, L, rfl, l, hS, hs, hm, h0, h1, q⟩ := h
  refine ⟨_, PSs.nox (pss_cons (ps_set (i := 3) sc_law_outline.nd rfl (.inl rfl) (pe_ix ix_list (pe_lst (pa_cons (pe_op op_add pe_int (pe_callG k__law_draw (hr.mono (by omega)) pas0 (pa_cons (pv 0) (pa_cons (pe_callB (c_min2 rfl) rfl B.min_ boot_min (pa_cons (pv 2) (pa_cons pe_int pa_nil))) pa_nil)))) (pa_cons (pe_op op_add pe_int (pe_callG k__law_draw (hr.mono (by omega)) pas0 (pa_cons (pv 0) (pa_cons (pv 2) pa_nil)))) (pa_cons (pv 2) pa_nil)))) (pe_callG k__law_draw (hr.mono (by omega)) pas0 (pa_cons (pv 0) (pa_cons pe_int pa_nil))) (fun _ _ => rfl)))
      (pss_cons (ps_par (i := 4) (j := 5) (by rfl) sc_law_outline.nd rfl rfl (by decide) rfl rfl (pa_cons (pe_callG k__law_draw (hr.mono (by omega)) pas0 (pa_cons (pv 0) (pa_cons pe_int pa_nil))) (pa_cons (pe_lst (pa_cons pe_int pa_nil)) pa_nil)) (by rfl))
      (pss_cons (ps_for PassesOwn.never rfl (pi_range2 rfl B.range_ (pa_cons pe_int (pa_cons (pe_ifExp (pt_cmpR (op_eqD hr.rm.units) (pv 1) (pe_lst pa_nil) (nomark _)) pe_int (pv 3)) pa_nil))) (pg_name (i := 6) sc_law_outline.nd rfl (.inl rfl))
        (pss_cons (ps_set (i := 7) sc_law_outline.nd rfl (.inl rfl) (pe_op op_add (pe_ix ix_list (pv 5) (pe_un un_neg pe_int) (fun _ _ => rfl)) pe_int))
      (pss_cons (ps_set (i := 8) sc_law_outline.nd rfl (.inl rfl) (pe_callG k__law_draw (hr.mono (by omega)) pas0 (pa_cons (pv 0) (pa_cons (pe_op op_add (pv 7) pe_int) pa_nil))))
      (pss_cons (ps_set (i := 9) sc_law_outline.nd rfl (.inl rfl) (pe_ifExp (pt_cmpR op_gt (pe_callG k__law_draw (hr.mono (by omega)) pas0 (pa_cons (pv 0) (pa_cons pe_int pa_nil))) pe_int (nomark _)) (pv 7) (pv 8)))
      (pss_one (ps_expr (pe_bm PySem.F.plainAttrs_list PySem.F.slot_list_append PySem.F.type_list_append mt_append (pv 5) (pa_cons (pe_ix ix_list (pe_lst (pa_cons (pv 8) (pa_cons (pe_callB (c_min2 rfl) rfl B.min_ boot_min (pa_cons (pv 8) (pa_cons pe_int pa_nil))) (pa_cons (pv 9) (pa_cons (pe_callB (c_min2 rfl) rfl B.min_ boot_min (pa_cons (pv 7) (pa_cons (pe_callG k__law_draw (hr.mono (by omega)) pas0 (pa_cons (pv 0) (pa_cons pe_int pa_nil))) pa_nil))) (pa_cons (pe_ifExp (pt_cmpR op_lt (pv 7) pe_int (nomark _)) (pv 7) pe_int) pa_nil)))))) (pv 4) (fun _ _ => rfl)) pa_nil))))))))
      (pss_one (ps_ret (pv 5)))))), ?_⟩
  rw [show L2.start ["source", "script", "most", "size", "style", "made", "k", "top", "some", "rising"] [.ref a, .ref z, .int most] = [some (.ref a), some (.ref z), some (.int most), none, none, none, none, none, none, none] from rfl]
  refine Tr.of ?_ l
  repeat walk_at "hz"
  refine use_law_draw (by walk_at "pk") hs (by omega) (by omega) (by omega) fun d1 o_d1 d1l d1h hs => ?_
  repeat walk_at "hz"
  refine use_law_draw (by walk_at "pk") hs (by omega) (by omega) (by omega) fun d2 o_d2 d2l d2h hs => ?_
  repeat walk_at "hz"
  refine use_law_draw (by walk_at "pk") hs (by omega) (by omega) (by omega) fun d3 o_d3 d3l d3h hs => ?_
  repeat walk_at "hz"
  obtain ⟨z1, z1_at, z1_mem, -⟩ := at_mem (ns := [1 + d1, 1 + d2, most]) d3l (by simpa using d3h)
  have z1b : 1 ≤ z1 ∧ z1 ≤ most := by
    simp only [List.mem_cons, List.not_mem_nil, or_false] at z1_mem
    omega
  refine t_ixL (by walk_at "pk") z1_at ?_
  repeat walk_at "hz"
  refine use_law_draw (by walk_at "pk") hs (by omega) (by omega) (by omega) fun style o_style stylel styleh hs => ?_
  repeat walk_at "hz"
  rename_i p e0
  refine t_eqSc (zs := []) (hS.mono fun l => l.sub (by walk_at "sb")) (by walk_at "mb") ?_
  repeat walk_at "hz"
  refine t_ifV (α := Int) (fun y => .int y) (fun _ => (p, .lst [V.int 0]) :: (a, o_style) :: L) (fun y => 1 ≤ y ∧ y ≤ most) (fun h Q j => ?_) (fun h Q j => ?_) ?_
  · repeat walk_at "hz"
    exact j 5 ⟨by omega, by omega⟩ _ (by walk_at "sb")
  · repeat walk_at "hz"
    exact j z1 z1b _ (by walk_at "sb")
  rintro y ⟨y0, y1⟩
  repeat walk_at "hz"
  refine t_forK wk_range (fun t ((ns, o, j6, j7, j8, j9) : (List Int) × HO × Option V × Option V × Option V × Option V) => [some (.ref a), some (.ref z), some (.int most), some (.int z1), some (.int style), some (.ref p), j6, j7, j8, j9]) (fun t ((ns, o, j6, j7, j8, j9) : (List Int) × HO × Option V × Option V × Option V × Option V) => (p, .lst (ns.map V.int)) :: (a, o) :: L) (fun t ((ns, o, j6, j7, j8, j9) : (List Int) × HO × Option V × Option V × Option V × Option V) => ns.length = t + 1 ∧ chainI (-1) ns ∧ Gen (m + 4 + 3 * t) o) ⟨([0], o_style, _, _, _, _), ⟨rfl, ⟨by decide, by decide, trivial⟩, hs⟩, rfl, (by walk_at "sb")⟩ (fun _ _ _ => trivial) ?_ ?_
  · clear hs
    rintro t ⟨ns, o, j6, j7, j8, j9⟩ v L' ht ⟨hl, hc, hs⟩ ⟨rfl, rfl⟩
    try dsimp only at hl hc hs ⊢
    simp only [List.nil_append, List.cons_append]
    have lb := lastD_bound (-1) ns hc (by omega)
    repeat walk_at "hz"
    refine t_ixL (by walk_at "pk") (at_lastD (-1) (by omega)) ?_
    repeat walk_at "hz"
    refine use_law_draw (by walk_at "pk") hs (by omega) (by omega) (by omega) fun e1 o_e1 e1l e1h hs => ?_
    repeat walk_at "hz"
    refine use_law_draw (by walk_at "pk") hs (by omega) (by omega) (by omega) fun e2 o_e2 e2l e2h hs => ?_
    repeat walk_at "hz"
    refine t_ifV (α := Int) (fun y => .int y) (fun _ => (a, o_e2) :: (p, .lst (ns.map V.int)) :: L) (fun y => 0 ≤ y ∧ y ≤ lastD (-1) ns + 1) (fun h Q j => ?_) (fun h Q j => ?_) ?_
    · repeat walk_at "hz"
      exact j _ ⟨by omega, by omega⟩ _ (by walk_at "sb")
    · repeat walk_at "hz"
      exact j _ ⟨by omega, by omega⟩ _ (by walk_at "sb")
    rintro u ⟨u0, u1⟩
    repeat walk_at "hz"
    refine use_law_draw (by walk_at "pk") hs (by omega) (by omega) (by omega) fun e3 o_e3 e3l e3h hs => ?_
    repeat walk_at "hz"
    refine t_ifV (α := Int) (fun y => .int y) (fun _ => (a, o_e3) :: (p, .lst (ns.map V.int)) :: L) (fun y => 0 ≤ y ∧ y ≤ lastD (-1) ns + 1) (fun h Q j => ?_) (fun h Q j => ?_) ?_
    · repeat walk_at "hz"
      exact j _ ⟨by omega, by omega⟩ _ (by walk_at "sb")
    · repeat walk_at "hz"
      exact j _ ⟨by omega, by omega⟩ _ (by walk_at "sb")
    rintro x ⟨x0, x1⟩
    repeat walk_at "hz"
    obtain ⟨n, hn, nm, -⟩ := at_mem (ns := [e1, min e1 1, u, min (lastD (-1) ns + 1) e3, x]) stylel (by simpa using styleh)
    have nb : 0 ≤ n ∧ n ≤ lastD (-1) ns + 1 := by
      simp only [List.mem_cons, List.not_mem_nil, or_false] at nm
      omega
    refine t_ixL (by walk_at "pk") hn ?_
    repeat walk_at "hz"
    refine t_pst (ns ++ [n], o_e3, _, _, _, _) ⟨(by (try dsimp only); (try simp only [List.length_append, List.length_cons, List.length_nil, List.length_map, List.length_singleton]); omega), (chainI_append _ _ _).mpr ⟨hc, nb.1, nb.2, trivial⟩, hs.le (by omega)⟩ rfl (by walk_at "sb")
  · rintro ⟨ns, o, j6, j7, j8, j9⟩ ⟨hl, hc, hs⟩
    try dsimp only at hl hc hs ⊢
    repeat walk_at "hz"
    exact q ns p o (outline_iff.mpr ⟨by omega, by omega, hc⟩) (by omega) (hs.le (by omega))
def sp_law_rows  : Sp := fun vs H Q E => ∃ (a z : Addr) (n : Int) (m : Nat) (o : HO) (L : Lg), vs = [.ref a, .ref z, .int n] ∧ Led H ((a, o) :: L) ∧ (Gen m o) ∧ (m ≤ 100000) ∧ (1 ≤ n) ∧ (n ≤ 400) ∧ ∀ (r : Int) (o' : HO), (1 ≤ r) → (r ≤ 400) → (Gen (m + 4) o') → Tr ((a, o') :: L) (fun H => Q (.int r) H)
theorem use_law_rows {L0  L : Lg} {Q : VK} {E : XK} {a z : Addr} {n : Int} {m : Nat} {o : HO} (hp0 : Pick (a) (o) L0 L) (hs : Gen m o) (hm : m ≤ 100000) (h0 : 1 ≤ n) (h1 : n ≤ 400) (q : ∀ (r : Int) (o' : HO), (1 ≤ r) → (r ≤ 400) → (Gen (m + 4) o') → Tr ((a, o') :: L) (fun H => Q (.int r) H)) : Tr L0 fun H => sp_law_rows [.ref a, .ref z, .int n] H Q E :=
  fun H l => ⟨a, z, n, m, o, L, rfl, l.pick hp0, hs, hm, h0, h1, q⟩

theorem ok_law_rows (D : Df K mg "_law_rows" s_law_rows) (B : Blt mg) (k__law_draw : Ok P w K mg base CX0 1 "_law_draw" ["source", "count"] sp_law_draw) : Ok P w K mg base CX0 2 "_law_rows" ["source", "script", "size"] sp_law_rows := by
  obtain ⟨f, fd, hm, F⟩ := D
  refine ⟨f, fd, hm, F.kp, F.binds (fun _ _ _ _ _ _ us hl => match us, hl with | [_, _, _], _ => rfl), FunOkG F sc_law_rows (fun vs H Q E h => ?_) (fun cdv A outer s H vs Q E hr h => ?_), F.lk⟩
  · obtain ⟨_, _, _, _, _, _, rfl, _⟩ := h; rfl
  obtain ⟨a, z, n, m, o, L, rfl, l, hs, hm, h0, h1, q⟩ := h
  refine ⟨_, PSs.nox (pss_cons (ps_set (i := 3) sc_law_rows.nd rfl (.inl rfl) (pe_lst (pa_cons (pe_op op_add pe_int (pe_callG k__law_draw (hr.mono (by omega)) pas0 (pa_cons (pv 0) (pa_cons pe_int pa_nil)))) (pa_cons (pe_op op_add pe_int (pe_callG k__law_draw (hr.mono (by omega)) pas0 (pa_cons (pv 0) (pa_cons pe_int pa_nil)))) (pa_cons (pe_op op_add pe_int (pe_callG k__law_draw (hr.mono (by omega)) pas0 (pa_cons (pv 0) (pa_cons pe_int pa_nil)))) (pa_cons (pv 2) pa_nil))))))
      (pss_one (ps_ret (pe_ix ix_list (pv 3) (pe_callG k__law_draw (hr.mono (by omega)) pas0 (pa_cons (pv 0) (pa_cons pe_int pa_nil))) (fun _ _ => rfl))))), ?_⟩
  rw [show L2.start ["source", "script", "size", "some"] [.ref a, .ref z, .int n] = [some (.ref a), some (.ref z), some (.int n), none] from rfl]
  refine Tr.of ?_ l
  repeat walk_at "hz"
  refine use_law_draw (by walk_at "pk") hs (by omega) (by omega) (by omega) fun d1 o_d1 d1l d1h hs => ?_
  repeat walk_at "hz"
  refine use_law_draw (by walk_at "pk") hs (by omega) (by omega) (by omega) fun d2 o_d2 d2l d2h hs => ?_
  repeat walk_at "hz"
  refine use_law_draw (by walk_at "pk") hs (by omega) (by omega) (by omega) fun d3 o_d3 d3l d3h hs => ?_
  repeat walk_at "hz"
  refine use_law_draw (by walk_at "pk") hs (by omega) (by omega) (by omega) fun d4 o_d4 d4l d4h hs => ?_
  repeat walk_at "hz"
  obtain ⟨r, r_at, r_mem, -⟩ := at_mem (ns := [1 + d1, 1 + d2, 1 + d3, n]) d4l (by simpa using d4h)
  have rb : 1 ≤ r ∧ r ≤ 400 := by
    simp only [List.mem_cons, List.not_mem_nil, or_false] at r_mem
    omega
  refine t_ixL (by walk_at "pk") r_at ?_
  repeat walk_at "hz"
  exact (q r _ rb.1 rb.2 (hs.le (by omega))).sub (by walk_at "sb")

abbrev i_TooDeepError : Stmt := inCls (topS 18) 0
theorem si_TooDeepError : FnScope ["self", "line"] ["self", "line"] (defScope i_TooDeepError) := ⟨rfl, rfl, rfl, by decide +kernel, rfl, by decide +kernel, by decide +kernel⟩
theorem bi_TooDeepError {S fI : Addr} {cd : Value} (hm : mg "StickyHeadsError" = some (.ref S)) (r : ClX.CRead K S (.type "type")) (v : PySem.W.findCls K (.ref S) (.type "type") "__init__" = some (.val (.builtin "ValueError.__init__"))) (A : Around) (outer : List Env) (s : Shared) (H : Hp) (E : XK) :
    PSs (cxOf CX0 P w K mg base ["self", "line"] "TooDeepError.__init__" (defScope i_TooDeepError) fI cd A outer s H E).nox (defBody i_TooDeepError) (tIni K "too deep" "line") :=
  pss_cons (ps_expr (pe_cinit rfl hm r v (by exact (pa_cons (pv 0) (pa_cons pe_str pa_nil))))) (pss_one (ps_ost (pv 0) (pv 1)))
def wordE : Nat → String
  | 0 => "outline"
  | 1 => "line"
  | 2 => "height"
  | 3 => "scroll"
  | _ => "deep"
/-- an answer of the law's: a word, or a word with a line -/
def resD (w : String) : Option Int → PyData
  | none => .str (Str.ofString w)
  | some l => .tuple [.str (Str.ofString w), .int l]
/-- the answer, with what is new of it -/
def ResV (N : Lg) (v : V) (w : String) : Option Int → Prop
  | none => v = .str (Str.ofString w) ∧ N = []
  | some l => ∃ t, v = .ref t ∧ N = [(t, .tup [.str (Str.ofString w), .int l])]
theorem ResV.dt {N L : Lg} {v : V} {w : String} {o : Option Int} (h : ResV N v w o) : Dt (N ++ L) v (resD w o) := by
  cases o with
  | none =>
    obtain ⟨rfl, rfl⟩ := h
    exact .str _
  | some l =>
    obtain ⟨t, rfl, rfl⟩ := h
    exact .tup (.head _) (.cons (.str _) (.cons (.int _) .nil))
def sp_law_error_name (C_InvalidHeightError C_InvalidLineError C_InvalidOutlineError C_InvalidScrollError C_TooDeepError : Addr) : Sp := fun vs H Q E => ∃ (a C : Addr) (d : Option Addr) (k : Nat) (ln : Int) (L : Lg), vs = [.ref a] ∧ Led H (L) ∧ ((a, exF a C d) ∈ L) ∧ ((k ≠ 9 ∧ d = none) ∨ (k = 9 ∧ ∃ dx, d = some dx ∧ (dx, HO.xd [("line", V.int ln)]) ∈ L)) ∧ ((k = 0 ∧ C = C_InvalidOutlineError) ∨ (k = 1 ∧ C = C_InvalidLineError) ∨ (k = 2 ∧ C = C_InvalidHeightError) ∨ (k = 3 ∧ C = C_InvalidScrollError) ∨ (k = 9 ∧ C = C_TooDeepError)) ∧ ∀ (v : V) (N : Lg), (ResV N v (wordE k) (if k = 9 then some ln else none)) → Tr ((N ++ L)) (fun H => Q (v) H)
theorem use_law_error_name {L : Lg} {Q : VK} {E : XK} {a C : Addr} {d : Option Addr} {k : Nat} {ln : Int} (he : (a, exF a C d) ∈ L) (hf : (k ≠ 9 ∧ d = none) ∨ (k = 9 ∧ ∃ dx, d = some dx ∧ (dx, HO.xd [("line", V.int ln)]) ∈ L)) (hd : (k = 0 ∧ C = C_InvalidOutlineError) ∨ (k = 1 ∧ C = C_InvalidLineError) ∨ (k = 2 ∧ C = C_InvalidHeightError) ∨ (k = 3 ∧ C = C_InvalidScrollError) ∨ (k = 9 ∧ C = C_TooDeepError)) (q : ∀ (v : V) (N : Lg), (ResV N v (wordE k) (if k = 9 then some ln else none)) → Tr ((N ++ L)) (fun H => Q (v) H)) : Tr L fun H => sp_law_error_name C_InvalidHeightError C_InvalidLineError C_InvalidOutlineError C_InvalidScrollError C_TooDeepError [.ref a] H Q E :=
  fun H l => ⟨a, C, d, k, ln, L, rfl, l, he, hf, hd, q⟩

set_option maxHeartbeats 4000000 in
theorem ok_law_error_name {C_EmptyHistoryError C_EmptyOutlineError C_EndError C_HiddenLineError C_InvalidDepthError C_InvalidDocumentError C_InvalidFoldsError C_InvalidHeightError C_InvalidLineError C_InvalidNumberError C_InvalidObservationsError C_InvalidOutlineError C_InvalidReadingError C_InvalidScrollError C_InvalidTextError C_InvalidTitleError C_TooDeepError C_TooManyLinesError : Addr} (D : Df K mg "_law_error_name" s_law_error_name) (B : Blt mg) (T_TooDeepError : Sbj K C_TooDeepError) (nf_TooDeepError : PySem.W.findIn K (.ref C_TooDeepError) "line" = some none) (g_InvalidFoldsError : GV mg "InvalidFoldsError" (.ref C_InvalidFoldsError)) (g_InvalidNumberError : GV mg "InvalidNumberError" (.ref C_InvalidNumberError)) (g_InvalidObservationsError : GV mg "InvalidObservationsError" (.ref C_InvalidObservationsError)) (g_InvalidReadingError : GV mg "InvalidReadingError" (.ref C_InvalidReadingError)) (g_InvalidTextError : GV mg "InvalidTextError" (.ref C_InvalidTextError)) (g_InvalidOutlineError : GV mg "InvalidOutlineError" (.ref C_InvalidOutlineError)) (g_InvalidLineError : GV mg "InvalidLineError" (.ref C_InvalidLineError)) (g_EmptyHistoryError : GV mg "EmptyHistoryError" (.ref C_EmptyHistoryError)) (n_ValueError : mg "ValueError" = none) (g_InvalidHeightError : GV mg "InvalidHeightError" (.ref C_InvalidHeightError)) (g_InvalidScrollError : GV mg "InvalidScrollError" (.ref C_InvalidScrollError)) (g_InvalidDocumentError : GV mg "InvalidDocumentError" (.ref C_InvalidDocumentError)) (g_EndError : GV mg "EndError" (.ref C_EndError)) (g_InvalidTitleError : GV mg "InvalidTitleError" (.ref C_InvalidTitleError)) (g_InvalidDepthError : GV mg "InvalidDepthError" (.ref C_InvalidDepthError)) (g_HiddenLineError : GV mg "HiddenLineError" (.ref C_HiddenLineError)) (g_TooDeepError : GV mg "TooDeepError" (.ref C_TooDeepError)) (g_TooManyLinesError : GV mg "TooManyLinesError" (.ref C_TooManyLinesError)) (g_EmptyOutlineError : GV mg "EmptyOutlineError" (.ref C_EmptyOutlineError)) (T_InvalidOutlineError : Sbj K C_InvalidOutlineError) (i_InvalidOutlineError_InvalidFoldsError : PySem.W.kitOne K (.ref C_InvalidOutlineError) (.ref C_InvalidFoldsError) = some false) (i_InvalidOutlineError_InvalidNumberError : PySem.W.kitOne K (.ref C_InvalidOutlineError) (.ref C_InvalidNumberError) = some false) (i_InvalidOutlineError_InvalidObservationsError : PySem.W.kitOne K (.ref C_InvalidOutlineError) (.ref C_InvalidObservationsError) = some false) (i_InvalidOutlineError_InvalidReadingError : PySem.W.kitOne K (.ref C_InvalidOutlineError) (.ref C_InvalidReadingError) = some false) (i_InvalidOutlineError_InvalidTextError : PySem.W.kitOne K (.ref C_InvalidOutlineError) (.ref C_InvalidTextError) = some false) (i_InvalidOutlineError_InvalidOutlineError : PySem.W.kitOne K (.ref C_InvalidOutlineError) (.ref C_InvalidOutlineError) = some true) (i_InvalidOutlineError_InvalidLineError : PySem.W.kitOne K (.ref C_InvalidOutlineError) (.ref C_InvalidLineError) = some false) (i_InvalidOutlineError_EmptyHistoryError : PySem.W.kitOne K (.ref C_InvalidOutlineError) (.ref C_EmptyHistoryError) = some false) (iv_InvalidOutlineError : PySem.W.kitOne K (.ref C_InvalidOutlineError) (.type "ValueError") = some true) (i_InvalidOutlineError_InvalidHeightError : PySem.W.kitOne K (.ref C_InvalidOutlineError) (.ref C_InvalidHeightError) = some false) (i_InvalidOutlineError_InvalidScrollError : PySem.W.kitOne K (.ref C_InvalidOutlineError) (.ref C_InvalidScrollError) = some false) (i_InvalidOutlineError_InvalidDocumentError : PySem.W.kitOne K (.ref C_InvalidOutlineError) (.ref C_InvalidDocumentError) = some false) (i_InvalidOutlineError_EndError : PySem.W.kitOne K (.ref C_InvalidOutlineError) (.ref C_EndError) = some false) (i_InvalidOutlineError_InvalidTitleError : PySem.W.kitOne K (.ref C_InvalidOutlineError) (.ref C_InvalidTitleError) = some false) (i_InvalidOutlineError_InvalidDepthError : PySem.W.kitOne K (.ref C_InvalidOutlineError) (.ref C_InvalidDepthError) = some false) (i_InvalidOutlineError_HiddenLineError : PySem.W.kitOne K (.ref C_InvalidOutlineError) (.ref C_HiddenLineError) = some false) (i_InvalidOutlineError_TooDeepError : PySem.W.kitOne K (.ref C_InvalidOutlineError) (.ref C_TooDeepError) = some false) (i_InvalidOutlineError_TooManyLinesError : PySem.W.kitOne K (.ref C_InvalidOutlineError) (.ref C_TooManyLinesError) = some false) (i_InvalidOutlineError_EmptyOutlineError : PySem.W.kitOne K (.ref C_InvalidOutlineError) (.ref C_EmptyOutlineError) = some false) (T_InvalidLineError : Sbj K C_InvalidLineError) (i_InvalidLineError_InvalidFoldsError : PySem.W.kitOne K (.ref C_InvalidLineError) (.ref C_InvalidFoldsError) = some false) (i_InvalidLineError_InvalidNumberError : PySem.W.kitOne K (.ref C_InvalidLineError) (.ref C_InvalidNumberError) = some false) (i_InvalidLineError_InvalidObservationsError : PySem.W.kitOne K (.ref C_InvalidLineError) (.ref C_InvalidObservationsError) = some false) (i_InvalidLineError_InvalidReadingError : PySem.W.kitOne K (.ref C_InvalidLineError) (.ref C_InvalidReadingError) = some false) (i_InvalidLineError_InvalidTextError : PySem.W.kitOne K (.ref C_InvalidLineError) (.ref C_InvalidTextError) = some false) (i_InvalidLineError_InvalidOutlineError : PySem.W.kitOne K (.ref C_InvalidLineError) (.ref C_InvalidOutlineError) = some false) (i_InvalidLineError_InvalidLineError : PySem.W.kitOne K (.ref C_InvalidLineError) (.ref C_InvalidLineError) = some true) (i_InvalidLineError_EmptyHistoryError : PySem.W.kitOne K (.ref C_InvalidLineError) (.ref C_EmptyHistoryError) = some false) (iv_InvalidLineError : PySem.W.kitOne K (.ref C_InvalidLineError) (.type "ValueError") = some true) (i_InvalidLineError_InvalidHeightError : PySem.W.kitOne K (.ref C_InvalidLineError) (.ref C_InvalidHeightError) = some false) (i_InvalidLineError_InvalidScrollError : PySem.W.kitOne K (.ref C_InvalidLineError) (.ref C_InvalidScrollError) = some false) (i_InvalidLineError_InvalidDocumentError : PySem.W.kitOne K (.ref C_InvalidLineError) (.ref C_InvalidDocumentError) = some false) (i_InvalidLineError_EndError : PySem.W.kitOne K (.ref C_InvalidLineError) (.ref C_EndError) = some false) (i_InvalidLineError_InvalidTitleError : PySem.W.kitOne K (.ref C_InvalidLineError) (.ref C_InvalidTitleError) = some false) (i_InvalidLineError_InvalidDepthError : PySem.W.kitOne K (.ref C_InvalidLineError) (.ref C_InvalidDepthError) = some false) (i_InvalidLineError_HiddenLineError : PySem.W.kitOne K (.ref C_InvalidLineError) (.ref C_HiddenLineError) = some false) (i_InvalidLineError_TooDeepError : PySem.W.kitOne K (.ref C_InvalidLineError) (.ref C_TooDeepError) = some false) (i_InvalidLineError_TooManyLinesError : PySem.W.kitOne K (.ref C_InvalidLineError) (.ref C_TooManyLinesError) = some false) (i_InvalidLineError_EmptyOutlineError : PySem.W.kitOne K (.ref C_InvalidLineError) (.ref C_EmptyOutlineError) = some false) (T_InvalidHeightError : Sbj K C_InvalidHeightError) (i_InvalidHeightError_InvalidFoldsError : PySem.W.kitOne K (.ref C_InvalidHeightError) (.ref C_InvalidFoldsError) = some false) (i_InvalidHeightError_InvalidNumberError : PySem.W.kitOne K (.ref C_InvalidHeightError) (.ref C_InvalidNumberError) = some false) (i_InvalidHeightError_InvalidObservationsError : PySem.W.kitOne K (.ref C_InvalidHeightError) (.ref C_InvalidObservationsError) = some false) (i_InvalidHeightError_InvalidReadingError : PySem.W.kitOne K (.ref C_InvalidHeightError) (.ref C_InvalidReadingError) = some false) (i_InvalidHeightError_InvalidTextError : PySem.W.kitOne K (.ref C_InvalidHeightError) (.ref C_InvalidTextError) = some false) (i_InvalidHeightError_InvalidOutlineError : PySem.W.kitOne K (.ref C_InvalidHeightError) (.ref C_InvalidOutlineError) = some false) (i_InvalidHeightError_InvalidLineError : PySem.W.kitOne K (.ref C_InvalidHeightError) (.ref C_InvalidLineError) = some false) (i_InvalidHeightError_EmptyHistoryError : PySem.W.kitOne K (.ref C_InvalidHeightError) (.ref C_EmptyHistoryError) = some false) (iv_InvalidHeightError : PySem.W.kitOne K (.ref C_InvalidHeightError) (.type "ValueError") = some true) (i_InvalidHeightError_InvalidHeightError : PySem.W.kitOne K (.ref C_InvalidHeightError) (.ref C_InvalidHeightError) = some true) (i_InvalidHeightError_InvalidScrollError : PySem.W.kitOne K (.ref C_InvalidHeightError) (.ref C_InvalidScrollError) = some false) (i_InvalidHeightError_InvalidDocumentError : PySem.W.kitOne K (.ref C_InvalidHeightError) (.ref C_InvalidDocumentError) = some false) (i_InvalidHeightError_EndError : PySem.W.kitOne K (.ref C_InvalidHeightError) (.ref C_EndError) = some false) (i_InvalidHeightError_InvalidTitleError : PySem.W.kitOne K (.ref C_InvalidHeightError) (.ref C_InvalidTitleError) = some false) (i_InvalidHeightError_InvalidDepthError : PySem.W.kitOne K (.ref C_InvalidHeightError) (.ref C_InvalidDepthError) = some false) (i_InvalidHeightError_HiddenLineError : PySem.W.kitOne K (.ref C_InvalidHeightError) (.ref C_HiddenLineError) = some false) (i_InvalidHeightError_TooDeepError : PySem.W.kitOne K (.ref C_InvalidHeightError) (.ref C_TooDeepError) = some false) (i_InvalidHeightError_TooManyLinesError : PySem.W.kitOne K (.ref C_InvalidHeightError) (.ref C_TooManyLinesError) = some false) (i_InvalidHeightError_EmptyOutlineError : PySem.W.kitOne K (.ref C_InvalidHeightError) (.ref C_EmptyOutlineError) = some false) (T_InvalidScrollError : Sbj K C_InvalidScrollError) (i_InvalidScrollError_InvalidFoldsError : PySem.W.kitOne K (.ref C_InvalidScrollError) (.ref C_InvalidFoldsError) = some false) (i_InvalidScrollError_InvalidNumberError : PySem.W.kitOne K (.ref C_InvalidScrollError) (.ref C_InvalidNumberError) = some false) (i_InvalidScrollError_InvalidObservationsError : PySem.W.kitOne K (.ref C_InvalidScrollError) (.ref C_InvalidObservationsError) = some false) (i_InvalidScrollError_InvalidReadingError : PySem.W.kitOne K (.ref C_InvalidScrollError) (.ref C_InvalidReadingError) = some false) (i_InvalidScrollError_InvalidTextError : PySem.W.kitOne K (.ref C_InvalidScrollError) (.ref C_InvalidTextError) = some false) (i_InvalidScrollError_InvalidOutlineError : PySem.W.kitOne K (.ref C_InvalidScrollError) (.ref C_InvalidOutlineError) = some false) (i_InvalidScrollError_InvalidLineError : PySem.W.kitOne K (.ref C_InvalidScrollError) (.ref C_InvalidLineError) = some false) (i_InvalidScrollError_EmptyHistoryError : PySem.W.kitOne K (.ref C_InvalidScrollError) (.ref C_EmptyHistoryError) = some false) (iv_InvalidScrollError : PySem.W.kitOne K (.ref C_InvalidScrollError) (.type "ValueError") = some true) (i_InvalidScrollError_InvalidHeightError : PySem.W.kitOne K (.ref C_InvalidScrollError) (.ref C_InvalidHeightError) = some false) (i_InvalidScrollError_InvalidScrollError : PySem.W.kitOne K (.ref C_InvalidScrollError) (.ref C_InvalidScrollError) = some true) (i_InvalidScrollError_InvalidDocumentError : PySem.W.kitOne K (.ref C_InvalidScrollError) (.ref C_InvalidDocumentError) = some false) (i_InvalidScrollError_EndError : PySem.W.kitOne K (.ref C_InvalidScrollError) (.ref C_EndError) = some false) (i_InvalidScrollError_InvalidTitleError : PySem.W.kitOne K (.ref C_InvalidScrollError) (.ref C_InvalidTitleError) = some false) (i_InvalidScrollError_InvalidDepthError : PySem.W.kitOne K (.ref C_InvalidScrollError) (.ref C_InvalidDepthError) = some false) (i_InvalidScrollError_HiddenLineError : PySem.W.kitOne K (.ref C_InvalidScrollError) (.ref C_HiddenLineError) = some false) (i_InvalidScrollError_TooDeepError : PySem.W.kitOne K (.ref C_InvalidScrollError) (.ref C_TooDeepError) = some false) (i_InvalidScrollError_TooManyLinesError : PySem.W.kitOne K (.ref C_InvalidScrollError) (.ref C_TooManyLinesError) = some false) (i_InvalidScrollError_EmptyOutlineError : PySem.W.kitOne K (.ref C_InvalidScrollError) (.ref C_EmptyOutlineError) = some false) (i_TooDeepError_InvalidFoldsError : PySem.W.kitOne K (.ref C_TooDeepError) (.ref C_InvalidFoldsError) = some false) (i_TooDeepError_InvalidNumberError : PySem.W.kitOne K (.ref C_TooDeepError) (.ref C_InvalidNumberError) = some false) (i_TooDeepError_InvalidObservationsError : PySem.W.kitOne K (.ref C_TooDeepError) (.ref C_InvalidObservationsError) = some false) (i_TooDeepError_InvalidReadingError : PySem.W.kitOne K (.ref C_TooDeepError) (.ref C_InvalidReadingError) = some false) (i_TooDeepError_InvalidTextError : PySem.W.kitOne K (.ref C_TooDeepError) (.ref C_InvalidTextError) = some false) (i_TooDeepError_InvalidOutlineError : PySem.W.kitOne K (.ref C_TooDeepError) (.ref C_InvalidOutlineError) = some false) (i_TooDeepError_InvalidLineError : PySem.W.kitOne K (.ref C_TooDeepError) (.ref C_InvalidLineError) = some false) (i_TooDeepError_EmptyHistoryError : PySem.W.kitOne K (.ref C_TooDeepError) (.ref C_EmptyHistoryError) = some false) (iv_TooDeepError : PySem.W.kitOne K (.ref C_TooDeepError) (.type "ValueError") = some true) (i_TooDeepError_InvalidHeightError : PySem.W.kitOne K (.ref C_TooDeepError) (.ref C_InvalidHeightError) = some false) (i_TooDeepError_InvalidScrollError : PySem.W.kitOne K (.ref C_TooDeepError) (.ref C_InvalidScrollError) = some false) (i_TooDeepError_InvalidDocumentError : PySem.W.kitOne K (.ref C_TooDeepError) (.ref C_InvalidDocumentError) = some false) (i_TooDeepError_EndError : PySem.W.kitOne K (.ref C_TooDeepError) (.ref C_EndError) = some false) (i_TooDeepError_InvalidTitleError : PySem.W.kitOne K (.ref C_TooDeepError) (.ref C_InvalidTitleError) = some false) (i_TooDeepError_InvalidDepthError : PySem.W.kitOne K (.ref C_TooDeepError) (.ref C_InvalidDepthError) = some false) (i_TooDeepError_HiddenLineError : PySem.W.kitOne K (.ref C_TooDeepError) (.ref C_HiddenLineError) = some false) (i_TooDeepError_TooDeepError : PySem.W.kitOne K (.ref C_TooDeepError) (.ref C_TooDeepError) = some true) (i_TooDeepError_TooManyLinesError : PySem.W.kitOne K (.ref C_TooDeepError) (.ref C_TooManyLinesError) = some false) (i_TooDeepError_EmptyOutlineError : PySem.W.kitOne K (.ref C_TooDeepError) (.ref C_EmptyOutlineError) = some false) : OkN P w K mg base CX0 1 "_law_error_name" ["caught"] (sp_law_error_name C_InvalidHeightError C_InvalidLineError C_InvalidOutlineError C_InvalidScrollError C_TooDeepError) := by
  obtain ⟨f, fd, hm, F⟩ := D
  refine okN_of hm F.kp (F.binds (fun _ _ _ _ _ _ us hl => match us, hl with | [_], _ => rfl)) (FunOkN F sc_law_error_name (fun vs H Q E h => ?_) (fun cdv A outer s H vs Q E hr hh h => ?_)) F.lk
  · obtain ⟨_, _, _, _, _, _, rfl, _⟩ := h; rfl
  obtain ⟨a, C, d, k, ln, L, rfl, l, he, hf, hd, q⟩ := h
  replace hh := hh a _ rfl
  refine ⟨_, PSs.nox (pss_cons (ps_set (i := 1) sc_law_error_name.nd rfl (.inl rfl) (pe_lst (pa_cons (pe_tup (pa_cons pe_str (pa_cons (pe_callB (show CallR _ (.builtin "isinstance") (rIsE K) from c_isE) rfl B.isinstance_ boot_isinstance (pa_cons (pv 0) (pa_cons (pe_gv g_InvalidOutlineError) pa_nil))) pa_nil))) (pa_cons (pe_tup (pa_cons pe_str (pa_cons (pe_callB (show CallR _ (.builtin "isinstance") (rIsE K) from c_isE) rfl B.isinstance_ boot_isinstance (pa_cons (pv 0) (pa_cons (pe_gv g_InvalidLineError) pa_nil))) pa_nil))) pa_nil))))
      (pss_cons (ps_set (i := 1) sc_law_error_name.nd rfl (.inl rfl) (pe_op op_cat (pv 1) (pe_lst (pa_cons (pe_tup (pa_cons pe_str (pa_cons (pe_callB (show CallR _ (.builtin "isinstance") (rIsE K) from c_isE) rfl B.isinstance_ boot_isinstance (pa_cons (pv 0) (pa_cons (pe_gv g_InvalidHeightError) pa_nil))) pa_nil))) pa_nil))))
      (pss_cons (ps_set (i := 1) sc_law_error_name.nd rfl (.inl rfl) (pe_op op_cat (pv 1) (pe_lst (pa_cons (pe_tup (pa_cons pe_str (pa_cons (pe_callB (show CallR _ (.builtin "isinstance") (rIsE K) from c_isE) rfl B.isinstance_ boot_isinstance (pa_cons (pv 0) (pa_cons (pe_gv g_InvalidScrollError) pa_nil))) pa_nil))) pa_nil))))
      (pss_cons (ps_set (i := 1) sc_law_error_name.nd rfl (.inl rfl) (pe_op op_cat (pv 1) (pe_lst (pa_cons (pe_tup (pa_cons pe_str (pa_cons (pe_callB (show CallR _ (.builtin "isinstance") (rIsE K) from c_isE) rfl B.isinstance_ boot_isinstance (pa_cons (pv 0) (pa_cons (pe_gv g_InvalidDocumentError) pa_nil))) pa_nil))) (pa_cons (pe_tup (pa_cons pe_str (pa_cons (pe_callB (show CallR _ (.builtin "isinstance") (rIsE K) from c_isE) rfl B.isinstance_ boot_isinstance (pa_cons (pv 0) (pa_cons (pe_gv g_EndError) pa_nil))) pa_nil))) pa_nil)))))
      (pss_cons (ps_set (i := 1) sc_law_error_name.nd rfl (.inl rfl) (pe_op op_cat (pv 1) (pe_lst (pa_cons (pe_tup (pa_cons pe_str (pa_cons (pe_callB (show CallR _ (.builtin "isinstance") (rIsE K) from c_isE) rfl B.isinstance_ boot_isinstance (pa_cons (pv 0) (pa_cons (pe_gv g_InvalidTitleError) pa_nil))) pa_nil))) pa_nil))))
      (pss_cons (ps_set (i := 1) sc_law_error_name.nd rfl (.inl rfl) (pe_op op_cat (pv 1) (pe_lst (pa_cons (pe_tup (pa_cons pe_str (pa_cons (pe_callB (show CallR _ (.builtin "isinstance") (rIsE K) from c_isE) rfl B.isinstance_ boot_isinstance (pa_cons (pv 0) (pa_cons (pe_gv g_InvalidDepthError) pa_nil))) pa_nil))) pa_nil))))
      (pss_cons (ps_set (i := 1) sc_law_error_name.nd rfl (.inl rfl) (pe_op op_cat (pv 1) (pe_lst (pa_cons (pe_tup (pa_cons pe_str (pa_cons (pe_callB (show CallR _ (.builtin "isinstance") (rIsE K) from c_isE) rfl B.isinstance_ boot_isinstance (pa_cons (pv 0) (pa_cons (pe_gv g_HiddenLineError) pa_nil))) pa_nil))) (pa_cons (pe_tup (pa_cons pe_str (pa_cons (pe_callB (show CallR _ (.builtin "isinstance") (rIsE K) from c_isE) rfl B.isinstance_ boot_isinstance (pa_cons (pv 0) (pa_cons (pe_gv g_TooDeepError) pa_nil))) pa_nil))) pa_nil)))))
      (pss_cons (ps_set (i := 1) sc_law_error_name.nd rfl (.inl rfl) (pe_op op_cat (pv 1) (pe_lst (pa_cons (pe_tup (pa_cons pe_str (pa_cons (pe_callB (show CallR _ (.builtin "isinstance") (rIsE K) from c_isE) rfl B.isinstance_ boot_isinstance (pa_cons (pv 0) (pa_cons (pe_gv g_TooManyLinesError) pa_nil))) pa_nil))) pa_nil))))
      (pss_cons (ps_set (i := 1) sc_law_error_name.nd rfl (.inl rfl) (pe_op op_cat (pv 1) (pe_lst (pa_cons (pe_tup (pa_cons pe_str (pa_cons (pe_callB (show CallR _ (.builtin "isinstance") (rIsE K) from c_isE) rfl B.isinstance_ boot_isinstance (pa_cons (pv 0) (pa_cons (pe_gv g_EmptyOutlineError) pa_nil))) pa_nil))) pa_nil))))
      (pss_cons (ps_expr (pe_bm PySem.F.plainAttrs_list PySem.F.slot_list_append PySem.F.type_list_append mt_append (pv 1) (pa_cons (pe_tup (pa_cons pe_str (pa_cons (pe_callB (show CallR _ (.builtin "isinstance") (rIsE K) from c_isE) rfl B.isinstance_ boot_isinstance (pa_cons (pv 0) (pa_cons (pe_gv g_EmptyHistoryError) pa_nil))) pa_nil))) pa_nil)))
      (pss_cons (ps_setLcN (i := 2) (own := [("name", 3), ("is_one", 4)]) (g := gTupN a _ 2 (gCons (gName 3) (gCons (gName 4) (gNil)))) hh sc_law_error_name.nd rfl rfl (sw_true rfl rfl rfl (by decide +kernel)) (pv 1) (blkOk_by (own := [("name", 3), ("is_one", 4)]) (N := ["caught", "pairs", "names", "name", "is_one", "odd"]) (sc := defScope s_law_error_name) (by decide +kernel)) (fun _ _ _ _ _ => (pg_tupN hh (pgs_cons (pg_name (i := 3) sc_law_error_name.nd rfl (.inl rfl)) (pgs_cons (pg_name (i := 4) sc_law_error_name.nd rfl (.inl rfl)) pgs_nil)))) (fun _ _ _ _ _ => (pts_one (pt_val (pv 4)))) (fun _ _ _ _ _ => (pv 3)))
      (pss_cons (ps_set (i := 5) sc_law_error_name.nd rfl (.inl rfl) (pe_callB (show CallR _ (.builtin "isinstance") (rIsET K) from c_isET) rfl B.isinstance_ boot_isinstance (pa_cons (pv 0) (pa_cons (pe_tup (pa_cons (pe_gv g_InvalidFoldsError) (pa_cons (pe_gv g_InvalidNumberError) (pa_cons (pe_gv g_InvalidObservationsError) (pa_cons (pe_gv g_InvalidReadingError) pa_nil))))) pa_nil))))
      (pss_cons (ps_if (PW.pt (pw_or (pt_val (pv 5)) (pw_or (pt_val (pe_callB (show CallR _ (.builtin "isinstance") (rIsE K) from c_isE) rfl B.isinstance_ boot_isinstance (pa_cons (pv 0) (pa_cons (pe_gv g_InvalidTextError) pa_nil)))) (pw_or (pt_not (pt_val (pe_callB (show CallR _ (.builtin "isinstance") (rIsE K) from c_isE) rfl B.isinstance_ boot_isinstance (pa_cons (pv 0) (pa_cons (pe_ty n_ValueError PyProof.Rows.Boot.«ValueError») pa_nil))))) (pw_or1 (pt_cmpR op_ne (pe_callB c_len rfl B.len_ boot_len (pa_cons (pv 2) pa_nil)) pe_int (nomark _))))))) (pss_one (ps_ret pe_str))
        pss_nil)
      (pss_one (ps_ret (pe_ifExp (pt_cmpR op_eq (pe_ix ix_list (pv 2) pe_int (fun _ _ => rfl)) pe_str (nomark _)) (pe_tup (pa_cons (pe_ix ix_list (pv 2) pe_int (fun _ _ => rfl)) (pa_cons (show PE _ _ (tExA K _ _) from (pe_exA (pv 0))) pa_nil))) (pe_ix ix_list (pv 2) pe_int (fun _ _ => rfl)))))))))))))))))), ?_⟩
  rw [show L2.start ["caught", "pairs", "names", "name", "is_one", "odd"] [.ref a] = [some (.ref a), none, none, none, none, none] from rfl]
  refine Tr.of ?_ l
  obtain ⟨R_he, P_he⟩ := Pick.of_mem he
  repeat walk_at "hz"
  have mat : Sbj K C ∧ PySem.W.kitOne K (.ref C) (.ref C_InvalidOutlineError) = some (decide (k = 0)) ∧ PySem.W.kitOne K (.ref C) (.ref C_InvalidLineError) = some (decide (k = 1)) ∧ PySem.W.kitOne K (.ref C) (.ref C_InvalidHeightError) = some (decide (k = 2)) ∧ PySem.W.kitOne K (.ref C) (.ref C_InvalidScrollError) = some (decide (k = 3)) ∧ PySem.W.kitOne K (.ref C) (.ref C_InvalidDocumentError) = some (decide (k = 4)) ∧ PySem.W.kitOne K (.ref C) (.ref C_EndError) = some (decide (k = 5)) ∧ PySem.W.kitOne K (.ref C) (.ref C_InvalidTitleError) = some (decide (k = 6)) ∧ PySem.W.kitOne K (.ref C) (.ref C_InvalidDepthError) = some (decide (k = 7)) ∧ PySem.W.kitOne K (.ref C) (.ref C_HiddenLineError) = some (decide (k = 8)) ∧ PySem.W.kitOne K (.ref C) (.ref C_TooDeepError) = some (decide (k = 9)) ∧ PySem.W.kitOne K (.ref C) (.ref C_TooManyLinesError) = some (decide (k = 10)) ∧ PySem.W.kitOne K (.ref C) (.ref C_EmptyOutlineError) = some (decide (k = 11)) ∧ PySem.W.kitOne K (.ref C) (.ref C_EmptyHistoryError) = some (decide (k = 12)) ∧ PySem.W.kitOne K (.ref C) (.ref C_InvalidFoldsError) = some false ∧ PySem.W.kitOne K (.ref C) (.ref C_InvalidNumberError) = some false ∧ PySem.W.kitOne K (.ref C) (.ref C_InvalidObservationsError) = some false ∧ PySem.W.kitOne K (.ref C) (.ref C_InvalidReadingError) = some false ∧ PySem.W.kitOne K (.ref C) (.ref C_InvalidTextError) = some false ∧ PySem.W.kitOne K (.ref C) (.type "ValueError") = some true := by
    rcases hd with ⟨rfl, rfl⟩ | ⟨rfl, rfl⟩ | ⟨rfl, rfl⟩ | ⟨rfl, rfl⟩ | ⟨rfl, rfl⟩
    · exact ⟨T_InvalidOutlineError, i_InvalidOutlineError_InvalidOutlineError, i_InvalidOutlineError_InvalidLineError, i_InvalidOutlineError_InvalidHeightError, i_InvalidOutlineError_InvalidScrollError, i_InvalidOutlineError_InvalidDocumentError, i_InvalidOutlineError_EndError, i_InvalidOutlineError_InvalidTitleError, i_InvalidOutlineError_InvalidDepthError, i_InvalidOutlineError_HiddenLineError, i_InvalidOutlineError_TooDeepError, i_InvalidOutlineError_TooManyLinesError, i_InvalidOutlineError_EmptyOutlineError, i_InvalidOutlineError_EmptyHistoryError, i_InvalidOutlineError_InvalidFoldsError, i_InvalidOutlineError_InvalidNumberError, i_InvalidOutlineError_InvalidObservationsError, i_InvalidOutlineError_InvalidReadingError, i_InvalidOutlineError_InvalidTextError, iv_InvalidOutlineError⟩
    · exact ⟨T_InvalidLineError, i_InvalidLineError_InvalidOutlineError, i_InvalidLineError_InvalidLineError, i_InvalidLineError_InvalidHeightError, i_InvalidLineError_InvalidScrollError, i_InvalidLineError_InvalidDocumentError, i_InvalidLineError_EndError, i_InvalidLineError_InvalidTitleError, i_InvalidLineError_InvalidDepthError, i_InvalidLineError_HiddenLineError, i_InvalidLineError_TooDeepError, i_InvalidLineError_TooManyLinesError, i_InvalidLineError_EmptyOutlineError, i_InvalidLineError_EmptyHistoryError, i_InvalidLineError_InvalidFoldsError, i_InvalidLineError_InvalidNumberError, i_InvalidLineError_InvalidObservationsError, i_InvalidLineError_InvalidReadingError, i_InvalidLineError_InvalidTextError, iv_InvalidLineError⟩
    · exact ⟨T_InvalidHeightError, i_InvalidHeightError_InvalidOutlineError, i_InvalidHeightError_InvalidLineError, i_InvalidHeightError_InvalidHeightError, i_InvalidHeightError_InvalidScrollError, i_InvalidHeightError_InvalidDocumentError, i_InvalidHeightError_EndError, i_InvalidHeightError_InvalidTitleError, i_InvalidHeightError_InvalidDepthError, i_InvalidHeightError_HiddenLineError, i_InvalidHeightError_TooDeepError, i_InvalidHeightError_TooManyLinesError, i_InvalidHeightError_EmptyOutlineError, i_InvalidHeightError_EmptyHistoryError, i_InvalidHeightError_InvalidFoldsError, i_InvalidHeightError_InvalidNumberError, i_InvalidHeightError_InvalidObservationsError, i_InvalidHeightError_InvalidReadingError, i_InvalidHeightError_InvalidTextError, iv_InvalidHeightError⟩
    · exact ⟨T_InvalidScrollError, i_InvalidScrollError_InvalidOutlineError, i_InvalidScrollError_InvalidLineError, i_InvalidScrollError_InvalidHeightError, i_InvalidScrollError_InvalidScrollError, i_InvalidScrollError_InvalidDocumentError, i_InvalidScrollError_EndError, i_InvalidScrollError_InvalidTitleError, i_InvalidScrollError_InvalidDepthError, i_InvalidScrollError_HiddenLineError, i_InvalidScrollError_TooDeepError, i_InvalidScrollError_TooManyLinesError, i_InvalidScrollError_EmptyOutlineError, i_InvalidScrollError_EmptyHistoryError, i_InvalidScrollError_InvalidFoldsError, i_InvalidScrollError_InvalidNumberError, i_InvalidScrollError_InvalidObservationsError, i_InvalidScrollError_InvalidReadingError, i_InvalidScrollError_InvalidTextError, iv_InvalidScrollError⟩
    · exact ⟨T_TooDeepError, i_TooDeepError_InvalidOutlineError, i_TooDeepError_InvalidLineError, i_TooDeepError_InvalidHeightError, i_TooDeepError_InvalidScrollError, i_TooDeepError_InvalidDocumentError, i_TooDeepError_EndError, i_TooDeepError_InvalidTitleError, i_TooDeepError_InvalidDepthError, i_TooDeepError_HiddenLineError, i_TooDeepError_TooDeepError, i_TooDeepError_TooManyLinesError, i_TooDeepError_EmptyOutlineError, i_TooDeepError_EmptyHistoryError, i_TooDeepError_InvalidFoldsError, i_TooDeepError_InvalidNumberError, i_TooDeepError_InvalidObservationsError, i_TooDeepError_InvalidReadingError, i_TooDeepError_InvalidTextError, iv_TooDeepError⟩
  have hk : k = 0 ∨ k = 1 ∨ k = 2 ∨ k = 3 ∨ k = 9 := by rcases hd with ⟨rfl, rfl⟩ | ⟨rfl, rfl⟩ | ⟨rfl, rfl⟩ | ⟨rfl, rfl⟩ | ⟨rfl, rfl⟩ <;> simp
  have hT : k = 9 → C = C_TooDeepError := fun e => by rcases hd with ⟨e2, z⟩ | ⟨e2, z⟩ | ⟨e2, z⟩ | ⟨e2, z⟩ | ⟨e2, z⟩ <;> first | exact z | (exfalso; omega)
  clear hd
  clear i_InvalidOutlineError_InvalidOutlineError i_InvalidOutlineError_InvalidLineError i_InvalidOutlineError_InvalidHeightError i_InvalidOutlineError_InvalidScrollError i_InvalidOutlineError_InvalidDocumentError i_InvalidOutlineError_EndError i_InvalidOutlineError_InvalidTitleError i_InvalidOutlineError_InvalidDepthError i_InvalidOutlineError_HiddenLineError i_InvalidOutlineError_TooDeepError i_InvalidOutlineError_TooManyLinesError i_InvalidOutlineError_EmptyOutlineError i_InvalidOutlineError_EmptyHistoryError i_InvalidOutlineError_InvalidFoldsError i_InvalidOutlineError_InvalidNumberError i_InvalidOutlineError_InvalidObservationsError i_InvalidOutlineError_InvalidReadingError i_InvalidOutlineError_InvalidTextError i_InvalidLineError_InvalidOutlineError i_InvalidLineError_InvalidLineError i_InvalidLineError_InvalidHeightError i_InvalidLineError_InvalidScrollError i_InvalidLineError_InvalidDocumentError i_InvalidLineError_EndError i_InvalidLineError_InvalidTitleError i_InvalidLineError_InvalidDepthError i_InvalidLineError_HiddenLineError i_InvalidLineError_TooDeepError i_InvalidLineError_TooManyLinesError i_InvalidLineError_EmptyOutlineError i_InvalidLineError_EmptyHistoryError i_InvalidLineError_InvalidFoldsError i_InvalidLineError_InvalidNumberError i_InvalidLineError_InvalidObservationsError i_InvalidLineError_InvalidReadingError i_InvalidLineError_InvalidTextError i_InvalidHeightError_InvalidOutlineError i_InvalidHeightError_InvalidLineError i_InvalidHeightError_InvalidHeightError i_InvalidHeightError_InvalidScrollError i_InvalidHeightError_InvalidDocumentError i_InvalidHeightError_EndError i_InvalidHeightError_InvalidTitleError i_InvalidHeightError_InvalidDepthError i_InvalidHeightError_HiddenLineError i_InvalidHeightError_TooDeepError i_InvalidHeightError_TooManyLinesError i_InvalidHeightError_EmptyOutlineError i_InvalidHeightError_EmptyHistoryError i_InvalidHeightError_InvalidFoldsError i_InvalidHeightError_InvalidNumberError i_InvalidHeightError_InvalidObservationsError i_InvalidHeightError_InvalidReadingError i_InvalidHeightError_InvalidTextError i_InvalidScrollError_InvalidOutlineError i_InvalidScrollError_InvalidLineError i_InvalidScrollError_InvalidHeightError i_InvalidScrollError_InvalidScrollError i_InvalidScrollError_InvalidDocumentError i_InvalidScrollError_EndError i_InvalidScrollError_InvalidTitleError i_InvalidScrollError_InvalidDepthError i_InvalidScrollError_HiddenLineError i_InvalidScrollError_TooDeepError i_InvalidScrollError_TooManyLinesError i_InvalidScrollError_EmptyOutlineError i_InvalidScrollError_EmptyHistoryError i_InvalidScrollError_InvalidFoldsError i_InvalidScrollError_InvalidNumberError i_InvalidScrollError_InvalidObservationsError i_InvalidScrollError_InvalidReadingError i_InvalidScrollError_InvalidTextError i_TooDeepError_InvalidOutlineError i_TooDeepError_InvalidLineError i_TooDeepError_InvalidHeightError i_TooDeepError_InvalidScrollError i_TooDeepError_InvalidDocumentError i_TooDeepError_EndError i_TooDeepError_InvalidTitleError i_TooDeepError_InvalidDepthError i_TooDeepError_HiddenLineError i_TooDeepError_TooDeepError i_TooDeepError_TooManyLinesError i_TooDeepError_EmptyOutlineError i_TooDeepError_EmptyHistoryError i_TooDeepError_InvalidFoldsError i_TooDeepError_InvalidNumberError i_TooDeepError_InvalidObservationsError i_TooDeepError_InvalidReadingError i_TooDeepError_InvalidTextError
  obtain ⟨T, j0, j1, j2, j3, j4, j5, j6, j7, j8, j9, j10, j11, j12, j13, j14, j15, j16, j17, iv⟩ := mat
  rcases hf with ⟨nk, rfl⟩ | ⟨rfl, dx, rfl, hx⟩
  · repeat walk_at "hz"
    rename_i t0 t1 q27 t2 q25 q24 t3 q22 q21 t4 t5 q18 q17 t6 q15 q14 t7 q12 q11 t8 t9 q8 q7 t10 q5 q4 t11 q2 q1 t12
    refine t_lcFil (wk_list (xs := [V.ref t0, .ref t1, .ref t2, .ref t3, .ref t4, .ref t5, .ref t6, .ref t7, .ref t8, .ref t9, .ref t10, .ref t11, .ref t12])) (by rfl) (fun i => decide (k = i)) (fun i => [V.str "outline", V.str "line", V.str "height", V.str "scroll", V.str "document", V.str "end", V.str "title", V.str "depth", V.str "hidden", V.str "deep", V.str "many", V.str "empty", V.str "history"].getD i .non) (fun x => ⟨_, (by walk_at "pk")⟩) ?_ fun D => ?_
    · rintro D i v L' hi ⟨hv, rfl⟩
      have hi2 : i < 13 := hi
      obtain rfl | rfl | rfl | rfl | rfl | rfl | rfl | rfl | rfl | rfl | rfl | rfl | rfl : i = 0 ∨ i = 1 ∨ i = 2 ∨ i = 3 ∨ i = 4 ∨ i = 5 ∨ i = 6 ∨ i = 7 ∨ i = 8 ∨ i = 9 ∨ i = 10 ∨ i = 11 ∨ i = 12 := by omega
      all_goals
        cases hv
        rw [List.nil_append]
        repeat walk_at "hz"
        first
        | exact t_ite (fun h => by
            repeat walk_at "hz"
            exact t_lcFlA (n := 20) (by omega) (by decide) h rfl (by walk_at "pk") (by walk_at "sb")) fun h => by
            repeat walk_at "hz"
            exact t_lcFlS h (by walk_at "pk") (by walk_at "sb")
        | exact t_lcFlA (n := 20) (by omega) (by decide) (decide_eq_true (by omega)) rfl (by walk_at "pk") (by walk_at "sb")
        | exact t_lcFlS (decide_eq_false (by omega)) (by walk_at "pk") (by walk_at "sb")
    refine Tr.lcast (show _ = [V.str (Str.ofString (wordE k))] from ?e) ?_
    case e =>
      obtain rfl | rfl | rfl | rfl | rfl := hk
      all_goals rfl
    refine Tr.sub (M := (D, .lst [V.str (Str.ofString (wordE k))]) :: L) ?_ (by walk_at "sb")
    repeat walk_at "hz"
    rw [decide_eq_false (show ¬ Str.ofString (wordE k) = Str.ofString "deep" by obtain rfl | rfl | rfl | rfl | rfl := hk <;> first | decide | exact absurd rfl nk)]
    repeat walk_at "hz"
    refine (q _ [] ?_).sub (by walk_at "sb")
    rw [if_neg nk]
    exact ⟨rfl, rfl⟩
  · have e9 := hT rfl
    subst e9
    obtain ⟨Rx, px⟩ := Pick.of_mem hx
    repeat walk_at "hz"
    rename_i t0 t1 q27 t2 q25 q24 t3 q22 q21 t4 t5 q18 q17 t6 q15 q14 t7 q12 q11 t8 t9 q8 q7 t10 q5 q4 t11 q2 q1 t12
    refine t_lcFil (wk_list (xs := [V.ref t0, .ref t1, .ref t2, .ref t3, .ref t4, .ref t5, .ref t6, .ref t7, .ref t8, .ref t9, .ref t10, .ref t11, .ref t12])) (by rfl) (fun i => decide (9 = i)) (fun i => [V.str "outline", V.str "line", V.str "height", V.str "scroll", V.str "document", V.str "end", V.str "title", V.str "depth", V.str "hidden", V.str "deep", V.str "many", V.str "empty", V.str "history"].getD i .non) (fun x => ⟨_, (by walk_at "pk")⟩) ?_ fun D => ?_
    · rintro D i v L' hi ⟨hv, rfl⟩
      have hi2 : i < 13 := hi
      obtain rfl | rfl | rfl | rfl | rfl | rfl | rfl | rfl | rfl | rfl | rfl | rfl | rfl : i = 0 ∨ i = 1 ∨ i = 2 ∨ i = 3 ∨ i = 4 ∨ i = 5 ∨ i = 6 ∨ i = 7 ∨ i = 8 ∨ i = 9 ∨ i = 10 ∨ i = 11 ∨ i = 12 := by omega
      all_goals
        cases hv
        rw [List.nil_append]
        repeat walk_at "hz"
        first
        | exact t_ite (fun h => by
            repeat walk_at "hz"
            exact t_lcFlA (n := 20) (by omega) (by decide) h rfl (by walk_at "pk") (by walk_at "sb")) fun h => by
            repeat walk_at "hz"
            exact t_lcFlS h (by walk_at "pk") (by walk_at "sb")
        | exact t_lcFlA (n := 20) (by omega) (by decide) (decide_eq_true (by omega)) rfl (by walk_at "pk") (by walk_at "sb")
        | exact t_lcFlS (decide_eq_false (by omega)) (by walk_at "pk") (by walk_at "sb")
    refine Tr.lcast (show _ = [V.str (Str.ofString (wordE 9))] from ?e) ?_
    case e => rfl
    refine Tr.sub (M := (D, .lst [V.str (Str.ofString (wordE 9))]) :: L) ?_ (by walk_at "sb")
    repeat walk_at "hz"
    rename_i pq pt
    exact (q (.ref pt) [(pt, HO.tup [V.str (Str.ofString (wordE 9)), V.int ln])] ⟨pt, rfl, rfl⟩).sub (by walk_at "sb")

def Small (M : Lg) (v : V) (d : PyData) : Prop := Dv M v d ∧ Sz 2000000 5 d
theorem Small.mono {L M : Lg} {v : V} {d : PyData} (h : Small L v d) (s : ∀ p ∈ L, p ∈ M) : Small M v d := ⟨h.1.mono s, h.2⟩
/-- the first error that applies: its word, its line -/
def dueR (k : Int) (b0 b1 b2 b3 b4 dp : Bool) (l : Int) : String × Option Int :=
  if b0 = false then ("outline", none) else if k ≠ 0 ∧ b1 = false then ("height", none) else if (k = 0 ∨ k = 1 ∨ k = 2 ∨ k = 4) ∧ b2 = false then ("scroll", none)
  else if (k = 3 ∨ k = 4 ∨ k = 5) ∧ b3 = false then ("line", none) else if k = 5 ∧ b4 = false then ("line", none) else if k = 4 ∧ dp = true then ("deep", some l) else ("none", none)
def sp_law_raised  : Sp := fun vs H Q E => ∃ (k : Int) (r : Addr) (v0 v1 v2 v3 v4 : V) (d0 : PyData) (T1 T2 T3 T4 : String) (b0 b1 b2 b3 b4 dp : Bool) (ln : Int) (du : String × Option Int) (L : Lg), vs = [.int k, .ref r] ∧ Led H (L) ∧ (0 ≤ k) ∧ (k < 6) ∧ ((r, HO.lst [v0, v1, v2, v3, v4]) ∈ L) ∧ (Dv L v0 d0) ∧ (HasTy L v1 T1) ∧ (HasTy L v2 T2) ∧ (HasTy L v3 T3) ∧ (HasTy L v4 T4) ∧ (outD d0 = b0) ∧ (htV v1 = b1) ∧ (b0 = true → ∃ a ns, v0 = .ref a ∧ (a, HO.lst (ns.map V.int)) ∈ L ∧ Outline ns ∧ scV (lsI ns) v2 = b2 ∧ rgV ns.length v3 = b3 ∧ rgV ns.length v4 = b4 ∧ (∀ h i, v1 = .int h → v3 = .int i → dpI ns h i = dp)) ∧ (∀ i, v3 = .int i → i = ln) ∧ (du = dueR k b0 b1 b2 b3 b4 dp ln) ∧ ∀ (v : V) (N : Lg), (ResV N v du.1 du.2) → Tr ((N ++ L)) (fun H => Q (v) H)
theorem use_law_raised {L : Lg} {Q : VK} {E : XK} {k : Int} {r : Addr} {v0 v1 v2 v3 v4 : V} {d0 : PyData} {T1 T2 T3 T4 : String} {b0 b1 b2 b3 b4 dp : Bool} {ln : Int} {du : String × Option Int} (h0 : 0 ≤ k) (h1 : k < 6) (hr1 : (r, HO.lst [v0, v1, v2, v3, v4]) ∈ L) (e0 : Dv L v0 d0) (ht1 : HasTy L v1 T1) (ht2 : HasTy L v2 T2) (ht3 : HasTy L v3 T3) (ht4 : HasTy L v4 T4) (hb : outD d0 = b0) (hb1 : htV v1 = b1) (hg : b0 = true → ∃ a ns, v0 = .ref a ∧ (a, HO.lst (ns.map V.int)) ∈ L ∧ Outline ns ∧ scV (lsI ns) v2 = b2 ∧ rgV ns.length v3 = b3 ∧ rgV ns.length v4 = b4 ∧ (∀ h i, v1 = .int h → v3 = .int i → dpI ns h i = dp)) (hl : ∀ i, v3 = .int i → i = ln) (hdu : du = dueR k b0 b1 b2 b3 b4 dp ln) (q : ∀ (v : V) (N : Lg), (ResV N v du.1 du.2) → Tr ((N ++ L)) (fun H => Q (v) H)) : Tr L fun H => sp_law_raised [.int k, .ref r] H Q E :=
  fun H l => ⟨k, r, v0, v1, v2, v3, v4, d0, T1, T2, T3, T4, b0, b1, b2, b3, b4, dp, ln, du, L, rfl, l, h0, h1, hr1, e0, ht1, ht2, ht3, ht4, hb, hb1, hg, hl, hdu, q⟩

theorem ok_law_raised {C_InvalidHeightError C_InvalidLineError C_InvalidOutlineError C_InvalidScrollError C_StickyHeadsError C_TooDeepError : Addr} (D : Df K mg "_law_raised" s_law_raised) (B : Blt mg) (k_top_line : Ok P w K mg base (L2N.CX P w) 4 "top_line" ["outline", "scroll"] (sp_top_line C_InvalidOutlineError C_InvalidScrollError)) (k_view : Ok P w K mg base (L2N.CX P w) 5 "view" ["outline", "height", "scroll"] (sp_view C_InvalidHeightError C_InvalidOutlineError C_InvalidScrollError)) (k_shown_lines : Ok P w K mg base (L2N.CX P w) 5 "shown_lines" ["outline", "height", "scroll"] (sp_shown_lines C_InvalidHeightError C_InvalidOutlineError C_InvalidScrollError)) (k_scrolls_for : Ok P w K mg base (L2N.CX P w) 4 "scrolls_for" ["outline", "height", "line"] (sp_scrolls_for C_InvalidHeightError C_InvalidLineError C_InvalidOutlineError)) (k_scroll_to_show : Ok P w K mg base (L2N.CX P w) 5 "scroll_to_show" ["outline", "height", "scroll", "line"] (sp_scroll_to_show C_InvalidHeightError C_InvalidLineError C_InvalidOutlineError C_InvalidScrollError C_TooDeepError)) (k_scrolls_for_both : Ok P w K mg base (L2N.CX P w) 4 "scrolls_for_both" ["outline", "height", "line", "other"] (sp_scrolls_for_both C_InvalidHeightError C_InvalidLineError C_InvalidOutlineError)) (k__law_error_name : OkN P w K mg base CX0 1 "_law_error_name" ["caught"] (sp_law_error_name C_InvalidHeightError C_InvalidLineError C_InvalidOutlineError C_InvalidScrollError C_TooDeepError)) (g_StickyHeadsError : GV mg "StickyHeadsError" (.ref C_StickyHeadsError)) (m_InvalidOutlineError_StickyHeadsError : PySem.W.exmOne K (.ref C_InvalidOutlineError) (.ref C_StickyHeadsError) = some true) (m_InvalidLineError_StickyHeadsError : PySem.W.exmOne K (.ref C_InvalidLineError) (.ref C_StickyHeadsError) = some true) (m_InvalidHeightError_StickyHeadsError : PySem.W.exmOne K (.ref C_InvalidHeightError) (.ref C_StickyHeadsError) = some true) (m_InvalidScrollError_StickyHeadsError : PySem.W.exmOne K (.ref C_InvalidScrollError) (.ref C_StickyHeadsError) = some true) (m_TooDeepError_StickyHeadsError : PySem.W.exmOne K (.ref C_TooDeepError) (.ref C_StickyHeadsError) = some true) : Ok P w K mg base CX0 6 "_law_raised" ["door", "given"] sp_law_raised := by
  obtain ⟨f, fd, hm, F⟩ := D
  refine ⟨f, fd, hm, F.kp, F.binds (fun _ _ _ _ _ _ us hl => match us, hl with | [_, _], _ => rfl), FunOkG F sc_law_raised (fun vs H Q E h => ?_) (fun cdv A outer s H vs Q E hr h => ?_), F.lk⟩
  · obtain ⟨_, _, _, _, _, _, _, _, _, _, _, _, _, _, _, _, _, _, _, _, _, rfl, _⟩ := h; rfl
  obtain ⟨k, r, v0, v1, v2, v3, v4, d0, T1, T2, T3, T4, b0, b1, b2, b3, b4, dp, ln, du, L, rfl, l, h0, h1, hr1, e0, ht1, ht2, ht3, ht4, hb, hb1, hg, hl, hdu, q⟩ := h
  obtain ⟨A_view, v_view, F_view⟩ := ok_fv k_view
  obtain ⟨A_shown_lines, v_shown_lines, F_shown_lines⟩ := ok_fv k_shown_lines
  refine ⟨_, PSs.nox (pss_cons (ps_set (i := 2) sc_law_raised.nd rfl (.inl rfl) pe_str)
      (pss_cons (ps_asg (pv 1) (pg_lst rfl (pgs_cons (pg_name (i := 3) sc_law_raised.nd rfl (.inl rfl)) (pgs_cons (pg_name (i := 4) sc_law_raised.nd rfl (.inl rfl)) (pgs_cons (pg_name (i := 5) sc_law_raised.nd rfl (.inl rfl)) (pgs_cons (pg_name (i := 6) sc_law_raised.nd rfl (.inl rfl)) (pgs_cons (pg_name (i := 7) sc_law_raised.nd rfl (.inl rfl)) pgs_nil)))))))
      (pss_cons (ps_try_cat (i := 8) rfl rfl sc_law_raised.nd rfl rfl ⟨rfl, by decide, .inl g_StickyHeadsError.ref⟩ (fun W pn xe tk po => (pss_one (ps_if (pt_cmpR op_eq (pv 0) pe_int (nomark _)) (pss_one (ps_expr (pe_callG k_top_line (hr.mono (by omega)) (fun σ => L2N.passAt tk σ) (pa_cons (pv 3) (pa_cons (pv 5) pa_nil)))))
        (pss_one (ps_if (pt_cmpR op_lt (pv 0) pe_int (nomark _)) (pss_one (ps_expr (show PE _ _ (tCallV (FO P w K mg base (L2N.CX P w) _) _ _ _) from (pe_callV hr (fun σ => L2N.passAt tk σ) (pe_ix (show IxR _ (rIxL K) from ix_list) (pe_lst (pa_cons (pe_gv v_view) (pa_cons (pe_gv v_shown_lines) pa_nil))) (pe_op op_sub (pv 0) pe_int) (fun _ _ => rfl)) (pa_cons (pv 3) (pa_cons (pv 4) (pa_cons (pv 5) pa_nil)))))))
        (pss_one (ps_if (pt_cmpR op_eq (pv 0) pe_int (nomark _)) (pss_one (ps_expr (pe_callG k_scrolls_for (hr.mono (by omega)) (fun σ => L2N.passAt tk σ) (pa_cons (pv 3) (pa_cons (pv 4) (pa_cons (pv 6) pa_nil))))))
        (pss_one (ps_if (pt_cmpR op_eq (pv 0) pe_int (nomark _)) (pss_one (ps_expr (pe_callG k_scroll_to_show (hr.mono (by omega)) (fun σ => L2N.passAt tk σ) (pa_cons (pv 3) (pa_cons (pv 4) (pa_cons (pv 5) (pa_cons (pv 6) pa_nil)))))))
        (pss_one (ps_expr (pe_callG k_scrolls_for_both (hr.mono (by omega)) (fun σ => L2N.passAt tk σ) (pa_cons (pv 3) (pa_cons (pv 4) (pa_cons (pv 6) (pa_cons (pv 7) pa_nil)))))))))))))))) (fun a pn => (pss_one (ps_set (i := 2) sc_law_raised.nd rfl (.inl rfl) (pe_callN (a := a) rfl k__law_error_name (hr.mono (by omega)).hot pas0 (pa_cons (pv 8) pa_nil))))))
      (pss_one (ps_ret (pv 2)))))), ?_⟩
  rw [show L2.start ["door", "given", "raised", "made", "rows", "place", "at", "to", "e"] [.int k, .ref r] = [some (.int k), some (.ref r), none, none, none, none, none, none, none] from rfl]
  refine Tr.of ?_ l
  obtain ⟨R_hr1, P_hr1⟩ := Pick.of_mem hr1
  repeat walk_at "hz"
  obtain rfl | rfl | rfl | rfl | rfl | rfl : k = 0 ∨ k = 1 ∨ k = 2 ∨ k = 3 ∨ k = 4 ∨ k = 5 := by omega
  · repeat walk_at "hz"
    refine use_top_line (b0 := b0) (b2 := b2) (by rw [← hb]; exact Dv.outIs (e0.mono fun q h => by walk_at "mb")) (ht2.mono fun q h => by walk_at "mb") (fun e => by obtain ⟨a, ns, g1, g2, g3, g4, g5, g6, g7⟩ := hg e; exact ⟨a, ns, g1, by walk_at "mb", g3, g4⟩) (fun e v => ?_) (fun e => ?_) (fun e => ?_)
    · obtain ⟨rfl, rfl⟩ := e
      repeat walk_at "hz"
      have hd : du = ("none", none) := by rw [hdu]; first | rfl | (cases b1 <;> rfl)
      subst hd
      exact (q _ [] ⟨rfl, rfl⟩).sub (by walk_at "sb")
    · subst e
      refine t_catch m_InvalidOutlineError_StickyHeadsError fun ex => ?_
      repeat walk_at "hz"
      refine use_law_error_name (k := 0) (ln := 0) (by walk_at "mb") (.inl ⟨by decide, rfl⟩) (.inl ⟨rfl, rfl⟩) fun v N hv => ?_
      obtain ⟨rfl, rfl⟩ := hv
      repeat walk_at "hz"
      have hd : du = ("outline", none) := by rw [hdu]; first | rfl | (cases b1 <;> rfl)
      subst hd
      exact (q _ [] ⟨rfl, rfl⟩).sub (by walk_at "sb")
    · obtain ⟨rfl, rfl⟩ := e
      refine t_catch m_InvalidScrollError_StickyHeadsError fun ex => ?_
      repeat walk_at "hz"
      refine use_law_error_name (k := 3) (ln := 0) (by walk_at "mb") (.inl ⟨by decide, rfl⟩) (.inr (.inr (.inr (.inl ⟨rfl, rfl⟩)))) fun v N hv => ?_
      obtain ⟨rfl, rfl⟩ := hv
      repeat walk_at "hz"
      have hd : du = ("scroll", none) := by rw [hdu]; first | rfl | (cases b1 <;> rfl)
      subst hd
      exact (q _ [] ⟨rfl, rfl⟩).sub (by walk_at "sb")
  · repeat walk_at "hz"
    refine t_FV (F_view _ (by omega)) ?_
    repeat walk_at "hz"
    refine use_view (b0 := b0) (b2 := b2) (by rw [← hb]; exact Dv.outIs (e0.mono fun q h => by walk_at "mb")) (ht1.mono fun q h => by walk_at "mb") (ht2.mono fun q h => by walk_at "mb") (fun e => by obtain ⟨a, ns, g1, g2, g3, g4, g5, g6, g7⟩ := hg e; exact ⟨a, ns, g1, by walk_at "mb", g3, g4⟩) (fun e v N => ?_) (fun e => ?_) (fun e => ?_) (fun e => ?_)
    · obtain ⟨rfl, eh, rfl⟩ := e
      rw [hb1] at eh
      subst eh
      repeat walk_at "hz"
      have hd : du = ("none", none) := by rw [hdu]; first | rfl | (cases b1 <;> rfl)
      subst hd
      exact (q _ [] ⟨rfl, rfl⟩).sub (by walk_at "sb")
    · subst e
      refine t_catch m_InvalidOutlineError_StickyHeadsError fun ex => ?_
      repeat walk_at "hz"
      refine use_law_error_name (k := 0) (ln := 0) (by walk_at "mb") (.inl ⟨by decide, rfl⟩) (.inl ⟨rfl, rfl⟩) fun v N hv => ?_
      obtain ⟨rfl, rfl⟩ := hv
      repeat walk_at "hz"
      have hd : du = ("outline", none) := by rw [hdu]; first | rfl | (cases b1 <;> rfl)
      subst hd
      exact (q _ [] ⟨rfl, rfl⟩).sub (by walk_at "sb")
    · obtain ⟨rfl, eh⟩ := e
      rw [hb1] at eh
      subst eh
      refine t_catch m_InvalidHeightError_StickyHeadsError fun ex => ?_
      repeat walk_at "hz"
      refine use_law_error_name (k := 2) (ln := 0) (by walk_at "mb") (.inl ⟨by decide, rfl⟩) (.inr (.inr (.inl ⟨rfl, rfl⟩))) fun v N hv => ?_
      obtain ⟨rfl, rfl⟩ := hv
      repeat walk_at "hz"
      have hd : du = ("height", none) := by rw [hdu]; first | rfl | (cases b1 <;> rfl)
      subst hd
      exact (q _ [] ⟨rfl, rfl⟩).sub (by walk_at "sb")
    · obtain ⟨rfl, eh, rfl⟩ := e
      rw [hb1] at eh
      subst eh
      refine t_catch m_InvalidScrollError_StickyHeadsError fun ex => ?_
      repeat walk_at "hz"
      refine use_law_error_name (k := 3) (ln := 0) (by walk_at "mb") (.inl ⟨by decide, rfl⟩) (.inr (.inr (.inr (.inl ⟨rfl, rfl⟩)))) fun v N hv => ?_
      obtain ⟨rfl, rfl⟩ := hv
      repeat walk_at "hz"
      have hd : du = ("scroll", none) := by rw [hdu]; first | rfl | (cases b1 <;> rfl)
      subst hd
      exact (q _ [] ⟨rfl, rfl⟩).sub (by walk_at "sb")
  · repeat walk_at "hz"
    refine t_FV (F_shown_lines _ (by omega)) ?_
    repeat walk_at "hz"
    refine use_shown_lines (b0 := b0) (b2 := b2) (by rw [← hb]; exact Dv.outIs (e0.mono fun q h => by walk_at "mb")) (ht1.mono fun q h => by walk_at "mb") (ht2.mono fun q h => by walk_at "mb") (fun e => by obtain ⟨a, ns, g1, g2, g3, g4, g5, g6, g7⟩ := hg e; exact ⟨a, ns, g1, by walk_at "mb", g3, g4⟩) (fun e v N => ?_) (fun e => ?_) (fun e => ?_) (fun e => ?_)
    · obtain ⟨rfl, eh, rfl⟩ := e
      rw [hb1] at eh
      subst eh
      repeat walk_at "hz"
      have hd : du = ("none", none) := by rw [hdu]; first | rfl | (cases b1 <;> rfl)
      subst hd
      exact (q _ [] ⟨rfl, rfl⟩).sub (by walk_at "sb")
    · subst e
      refine t_catch m_InvalidOutlineError_StickyHeadsError fun ex => ?_
      repeat walk_at "hz"
      refine use_law_error_name (k := 0) (ln := 0) (by walk_at "mb") (.inl ⟨by decide, rfl⟩) (.inl ⟨rfl, rfl⟩) fun v N hv => ?_
      obtain ⟨rfl, rfl⟩ := hv
      repeat walk_at "hz"
      have hd : du = ("outline", none) := by rw [hdu]; first | rfl | (cases b1 <;> rfl)
      subst hd
      exact (q _ [] ⟨rfl, rfl⟩).sub (by walk_at "sb")
    · obtain ⟨rfl, eh⟩ := e
      rw [hb1] at eh
      subst eh
      refine t_catch m_InvalidHeightError_StickyHeadsError fun ex => ?_
      repeat walk_at "hz"
      refine use_law_error_name (k := 2) (ln := 0) (by walk_at "mb") (.inl ⟨by decide, rfl⟩) (.inr (.inr (.inl ⟨rfl, rfl⟩))) fun v N hv => ?_
      obtain ⟨rfl, rfl⟩ := hv
      repeat walk_at "hz"
      have hd : du = ("height", none) := by rw [hdu]; first | rfl | (cases b1 <;> rfl)
      subst hd
      exact (q _ [] ⟨rfl, rfl⟩).sub (by walk_at "sb")
    · obtain ⟨rfl, eh, rfl⟩ := e
      rw [hb1] at eh
      subst eh
      refine t_catch m_InvalidScrollError_StickyHeadsError fun ex => ?_
      repeat walk_at "hz"
      refine use_law_error_name (k := 3) (ln := 0) (by walk_at "mb") (.inl ⟨by decide, rfl⟩) (.inr (.inr (.inr (.inl ⟨rfl, rfl⟩)))) fun v N hv => ?_
      obtain ⟨rfl, rfl⟩ := hv
      repeat walk_at "hz"
      have hd : du = ("scroll", none) := by rw [hdu]; first | rfl | (cases b1 <;> rfl)
      subst hd
      exact (q _ [] ⟨rfl, rfl⟩).sub (by walk_at "sb")
  · repeat walk_at "hz"
    refine use_scrolls_for (b0 := b0) (b3 := b3) (by rw [← hb]; exact Dv.outIs (e0.mono fun q h => by walk_at "mb")) (ht1.mono fun q h => by walk_at "mb") (ht3.mono fun q h => by walk_at "mb") (fun e => by obtain ⟨a, ns, g1, g2, g3, g4, g5, g6, g7⟩ := hg e; exact ⟨a, ns, g1, by walk_at "mb", g3, g5⟩) (fun e v N => ?_) (fun e => ?_) (fun e => ?_) (fun e => ?_)
    · obtain ⟨rfl, eh, rfl⟩ := e
      rw [hb1] at eh
      subst eh
      repeat walk_at "hz"
      have hd : du = ("none", none) := by rw [hdu]; first | rfl | (cases b1 <;> rfl)
      subst hd
      exact (q _ [] ⟨rfl, rfl⟩).sub (by walk_at "sb")
    · subst e
      refine t_catch m_InvalidOutlineError_StickyHeadsError fun ex => ?_
      repeat walk_at "hz"
      refine use_law_error_name (k := 0) (ln := 0) (by walk_at "mb") (.inl ⟨by decide, rfl⟩) (.inl ⟨rfl, rfl⟩) fun v N hv => ?_
      obtain ⟨rfl, rfl⟩ := hv
      repeat walk_at "hz"
      have hd : du = ("outline", none) := by rw [hdu]; first | rfl | (cases b1 <;> rfl)
      subst hd
      exact (q _ [] ⟨rfl, rfl⟩).sub (by walk_at "sb")
    · obtain ⟨rfl, eh⟩ := e
      rw [hb1] at eh
      subst eh
      refine t_catch m_InvalidHeightError_StickyHeadsError fun ex => ?_
      repeat walk_at "hz"
      refine use_law_error_name (k := 2) (ln := 0) (by walk_at "mb") (.inl ⟨by decide, rfl⟩) (.inr (.inr (.inl ⟨rfl, rfl⟩))) fun v N hv => ?_
      obtain ⟨rfl, rfl⟩ := hv
      repeat walk_at "hz"
      have hd : du = ("height", none) := by rw [hdu]; first | rfl | (cases b1 <;> rfl)
      subst hd
      exact (q _ [] ⟨rfl, rfl⟩).sub (by walk_at "sb")
    · obtain ⟨rfl, eh, rfl⟩ := e
      rw [hb1] at eh
      subst eh
      refine t_catch m_InvalidLineError_StickyHeadsError fun ex => ?_
      repeat walk_at "hz"
      refine use_law_error_name (k := 1) (ln := 0) (by walk_at "mb") (.inl ⟨by decide, rfl⟩) (.inr (.inl ⟨rfl, rfl⟩)) fun v N hv => ?_
      obtain ⟨rfl, rfl⟩ := hv
      repeat walk_at "hz"
      have hd : du = ("line", none) := by rw [hdu]; first | rfl | (cases b1 <;> rfl)
      subst hd
      exact (q _ [] ⟨rfl, rfl⟩).sub (by walk_at "sb")
  · repeat walk_at "hz"
    refine use_scroll_to_show (b0 := b0) (b2 := b2) (b3 := b3) (dp := dp) (by rw [← hb]; exact Dv.outIs (e0.mono fun q h => by walk_at "mb")) (ht1.mono fun q h => by walk_at "mb") (ht2.mono fun q h => by walk_at "mb") (ht3.mono fun q h => by walk_at "mb") (fun e => by obtain ⟨a, ns, g1, g2, g3, g4, g5, g6, g7⟩ := hg e; exact ⟨a, ns, g1, by walk_at "mb", g3, g4, g5, g7⟩) (fun e v N => ?_) (fun e => ?_) (fun e => ?_) (fun e => ?_) (fun e => ?_) (fun j e dx => ?_)
    · obtain ⟨rfl, eh, rfl, rfl, rfl⟩ := e
      rw [hb1] at eh
      subst eh
      repeat walk_at "hz"
      have hd : du = ("none", none) := by rw [hdu]; first | rfl | (cases b1 <;> rfl)
      subst hd
      exact (q _ [] ⟨rfl, rfl⟩).sub (by walk_at "sb")
    · subst e
      refine t_catch m_InvalidOutlineError_StickyHeadsError fun ex => ?_
      repeat walk_at "hz"
      refine use_law_error_name (k := 0) (ln := 0) (by walk_at "mb") (.inl ⟨by decide, rfl⟩) (.inl ⟨rfl, rfl⟩) fun v N hv => ?_
      obtain ⟨rfl, rfl⟩ := hv
      repeat walk_at "hz"
      have hd : du = ("outline", none) := by rw [hdu]; first | rfl | (cases b1 <;> rfl)
      subst hd
      exact (q _ [] ⟨rfl, rfl⟩).sub (by walk_at "sb")
    · obtain ⟨rfl, eh⟩ := e
      rw [hb1] at eh
      subst eh
      refine t_catch m_InvalidHeightError_StickyHeadsError fun ex => ?_
      repeat walk_at "hz"
      refine use_law_error_name (k := 2) (ln := 0) (by walk_at "mb") (.inl ⟨by decide, rfl⟩) (.inr (.inr (.inl ⟨rfl, rfl⟩))) fun v N hv => ?_
      obtain ⟨rfl, rfl⟩ := hv
      repeat walk_at "hz"
      have hd : du = ("height", none) := by rw [hdu]; first | rfl | (cases b1 <;> rfl)
      subst hd
      exact (q _ [] ⟨rfl, rfl⟩).sub (by walk_at "sb")
    · obtain ⟨rfl, eh, rfl⟩ := e
      rw [hb1] at eh
      subst eh
      refine t_catch m_InvalidScrollError_StickyHeadsError fun ex => ?_
      repeat walk_at "hz"
      refine use_law_error_name (k := 3) (ln := 0) (by walk_at "mb") (.inl ⟨by decide, rfl⟩) (.inr (.inr (.inr (.inl ⟨rfl, rfl⟩)))) fun v N hv => ?_
      obtain ⟨rfl, rfl⟩ := hv
      repeat walk_at "hz"
      have hd : du = ("scroll", none) := by rw [hdu]; first | rfl | (cases b1 <;> rfl)
      subst hd
      exact (q _ [] ⟨rfl, rfl⟩).sub (by walk_at "sb")
    · obtain ⟨rfl, eh, rfl, rfl⟩ := e
      rw [hb1] at eh
      subst eh
      refine t_catch m_InvalidLineError_StickyHeadsError fun ex => ?_
      repeat walk_at "hz"
      refine use_law_error_name (k := 1) (ln := 0) (by walk_at "mb") (.inl ⟨by decide, rfl⟩) (.inr (.inl ⟨rfl, rfl⟩)) fun v N hv => ?_
      obtain ⟨rfl, rfl⟩ := hv
      repeat walk_at "hz"
      have hd : du = ("line", none) := by rw [hdu]; first | rfl | (cases b1 <;> rfl)
      subst hd
      exact (q _ [] ⟨rfl, rfl⟩).sub (by walk_at "sb")
    · obtain ⟨rfl, eh, rfl, rfl, rfl, ej⟩ := e
      have el := hl j ej
      subst el
      rw [hb1] at eh
      subst eh
      refine t_catch m_TooDeepError_StickyHeadsError fun ex => ?_
      repeat walk_at "hz"
      refine use_law_error_name (k := 9) (ln := j) (by walk_at "mb") (.inr ⟨rfl, _, rfl, (by walk_at "mb")⟩) (.inr (.inr (.inr (.inr ⟨rfl, rfl⟩)))) fun v N hv => ?_
      obtain ⟨pt, rfl, rfl⟩ := hv
      repeat walk_at "hz"
      have hd : du = ("deep", some j) := by rw [hdu]; first | rfl | (cases b1 <;> rfl)
      subst hd
      exact (q _ [_] ⟨pt, rfl, rfl⟩).sub (by walk_at "sb")
  · repeat walk_at "hz"
    refine use_scrolls_for_both (b0 := b0) (b3 := b3) (b4 := b4) (by rw [← hb]; exact Dv.outIs (e0.mono fun q h => by walk_at "mb")) (ht1.mono fun q h => by walk_at "mb") (ht3.mono fun q h => by walk_at "mb") (ht4.mono fun q h => by walk_at "mb") (fun e => by obtain ⟨a, ns, g1, g2, g3, g4, g5, g6, g7⟩ := hg e; exact ⟨a, ns, g1, by walk_at "mb", g3, g5, g6⟩) (fun e v N => ?_) (fun e => ?_) (fun e => ?_) (fun e => ?_)
    · obtain ⟨rfl, eh, rfl, rfl⟩ := e
      rw [hb1] at eh
      subst eh
      repeat walk_at "hz"
      have hd : du = ("none", none) := by rw [hdu]; first | rfl | (cases b1 <;> rfl)
      subst hd
      exact (q _ [] ⟨rfl, rfl⟩).sub (by walk_at "sb")
    · subst e
      refine t_catch m_InvalidOutlineError_StickyHeadsError fun ex => ?_
      repeat walk_at "hz"
      refine use_law_error_name (k := 0) (ln := 0) (by walk_at "mb") (.inl ⟨by decide, rfl⟩) (.inl ⟨rfl, rfl⟩) fun v N hv => ?_
      obtain ⟨rfl, rfl⟩ := hv
      repeat walk_at "hz"
      have hd : du = ("outline", none) := by rw [hdu]; first | rfl | (cases b1 <;> rfl)
      subst hd
      exact (q _ [] ⟨rfl, rfl⟩).sub (by walk_at "sb")
    · obtain ⟨rfl, eh⟩ := e
      rw [hb1] at eh
      subst eh
      refine t_catch m_InvalidHeightError_StickyHeadsError fun ex => ?_
      repeat walk_at "hz"
      refine use_law_error_name (k := 2) (ln := 0) (by walk_at "mb") (.inl ⟨by decide, rfl⟩) (.inr (.inr (.inl ⟨rfl, rfl⟩))) fun v N hv => ?_
      obtain ⟨rfl, rfl⟩ := hv
      repeat walk_at "hz"
      have hd : du = ("height", none) := by rw [hdu]; first | rfl | (cases b1 <;> rfl)
      subst hd
      exact (q _ [] ⟨rfl, rfl⟩).sub (by walk_at "sb")
    · obtain ⟨rfl, eh, e⟩ := e
      rw [hb1] at eh
      subst eh
      refine t_catch m_InvalidLineError_StickyHeadsError fun ex => ?_
      repeat walk_at "hz"
      refine use_law_error_name (k := 1) (ln := 0) (by walk_at "mb") (.inl ⟨by decide, rfl⟩) (.inr (.inl ⟨rfl, rfl⟩)) fun v N hv => ?_
      obtain ⟨rfl, rfl⟩ := hv
      repeat walk_at "hz"
      have hd : du = ("line", none) := by rw [hdu]; rcases e with rfl | rfl <;> first | rfl | (cases b3 <;> rfl)
      subst hd
      exact (q _ [] ⟨rfl, rfl⟩).sub (by walk_at "sb")

theorem at_memV {xs : List V} {i : Int} (h0 : 0 ≤ i) (h1 : i < xs.length) : ∃ v, atI xs i = some v ∧ v ∈ xs := by
  obtain ⟨j, rfl⟩ : ∃ j : Nat, i = (j : Int) := ⟨i.toNat, by omega⟩
  have hl : j < xs.length := by omega
  exact ⟨xs[j], atI_nat (by rw [List.getElem?_eq_getElem hl]), List.getElem_mem hl⟩
theorem lastD_take : ∀ (b : Int) (ns : List Int) (i : Nat), i ≤ ns.length → (b :: ns)[i]? = some (lastD b (ns.take i))
  | b, ns, 0, _ => by simp [lastD]
  | b, [], i + 1, h => by simp at h
  | b, d :: r, i + 1, h => by
    have := lastD_take d r i (by simpa using h)
    simpa [lastD] using this
theorem Outline.lastBound {ns : List Int} (h : Outline ns) : 0 ≤ lastD (-1) ns ∧ lastD (-1) ns ≤ 199 := by
  have h1 := h.len
  have := lastD_bound (-1) ns h.chain h1.1
  omega

/-- a small number -/
theorem sz_small {i : Int} (h : i.natAbs < 2 ^ 110) : Sz 1000 2 (.int i) := (Sz.int 110 (by decide) (by decide) h).le (by decide) (by decide)
theorem sz_depths {ns : List Int} (ho : Outline ns) : ∀ n ∈ ns, n.natAbs < 2 ^ 30 := fun n hn => by
  obtain ⟨i, hi⟩ := List.mem_iff_getElem?.mp hn
  have := ho.bound hi
  have := (List.getElem?_eq_some_iff.mp hi).1
  have := ho.len
  omega

def sp_law_not_an_outline  : Sp := fun vs H Q E => ∃ (a b : Addr) (ns : List Int) (m : Nat) (o : HO) (L : Lg), vs = [.ref a, .ref b] ∧ Led H ((a, o) :: L) ∧ ((b, .lst (ns.map V.int)) ∈ L) ∧ (Outline ns) ∧ (Gen m o) ∧ (m ≤ 100000000) ∧ ∀ (x : V) (d : PyData) (N : Lg) (o' : HO), (Dv (N ++ L) x d) → (Sz 2000000 5 d) → (outD d = false) → (Gen (m + 3) o') → Tr ((a, o') :: (N ++ L)) (fun H => Q (x) H)
theorem use_law_not_an_outline {L0  L : Lg} {Q : VK} {E : XK} {a b : Addr} {ns : List Int} {m : Nat} {o : HO} (hp0 : Pick (a) (o) L0 L) (hm : (b, .lst (ns.map V.int)) ∈ L) (ho : Outline ns) (hs : Gen m o) (hn : m ≤ 100000000) (q : ∀ (x : V) (d : PyData) (N : Lg) (o' : HO), (Dv (N ++ L) x d) → (Sz 2000000 5 d) → (outD d = false) → (Gen (m + 3) o') → Tr ((a, o') :: (N ++ L)) (fun H => Q (x) H)) : Tr L0 fun H => sp_law_not_an_outline [.ref a, .ref b] H Q E :=
  fun H l => ⟨a, b, ns, m, o, L, rfl, l.pick hp0, hm, ho, hs, hn, q⟩

theorem ok_law_not_an_outline (D : Df K mg "_law_not_an_outline" s_law_not_an_outline) (B : Blt mg) (k__law_draw : Ok P w K mg base CX0 1 "_law_draw" ["source", "count"] sp_law_draw) : Ok P w K mg base CX0 2 "_law_not_an_outline" ["source", "made"] sp_law_not_an_outline := by
  obtain ⟨f, fd, hm, F⟩ := D
  refine ⟨f, fd, hm, F.kp, F.binds (fun _ _ _ _ _ _ us hl => match us, hl with | [_, _], _ => rfl), FunOkG F sc_law_not_an_outline (fun vs H Q E h => ?_) (fun cdv A outer s H vs Q E hr h => ?_), F.lk⟩
  · obtain ⟨_, _, _, _, _, _, rfl, _⟩ := h; rfl
  obtain ⟨a, b, ns, m, o, L, rfl, l, hm, ho, hs, hn, q⟩ := h
  refine ⟨_, PSs.nox (pss_cons (ps_set (i := 2) sc_law_not_an_outline.nd rfl (.inl rfl) (pe_callG k__law_draw (hr.mono (by omega)) pas0 (pa_cons (pv 0) (pa_cons (pe_callB c_len rfl B.len_ boot_len (pa_cons (pv 1) pa_nil)) pa_nil))))
      (pss_cons (ps_set (i := 3) sc_law_not_an_outline.nd rfl (.inl rfl) (pe_ix ix_list (pe_lst (pa_cons (pe_un un_neg pe_int) (pa_cons pe_bl (pa_cons pe_bl (pa_cons pe_non (pa_cons pe_str (pa_cons (pe_lst (pa_cons pe_int pa_nil)) (pa_cons (pe_op op_powW pe_int pe_int) (pa_cons (pe_op op_add (pe_op op_add (pe_ix ix_list (pv 1) (pv 2) (fun _ _ => rfl)) (pe_callB c_len rfl B.len_ boot_len (pa_cons (pv 1) pa_nil))) pe_int) pa_nil))))))))) (pe_callG k__law_draw (hr.mono (by omega)) pas0 (pa_cons (pv 0) (pa_cons pe_int pa_nil))) (fun _ _ => rfl)))
      (pss_cons (ps_set (i := 4) sc_law_not_an_outline.nd rfl (.inl rfl) (pe_lst (pa_cons pe_non (pa_cons (pe_lst pa_nil) (pa_cons (pe_callTy c_tuple rfl B.tuple_ boot_tuple (pa_cons (pv 1) pa_nil)) (pa_cons pe_int (pa_cons pe_str (pa_cons pe_dnewK (pa_cons (pe_op op_cat (pe_lst (pa_cons pe_int pa_nil)) (pv 1)) (pa_cons (pe_op op_cat (pv 1) (pe_lst (pa_cons (pe_op op_add (pe_ix ix_list (pv 1) (pe_un un_neg pe_int) (fun _ _ => rfl)) pe_int) pa_nil))) (pa_cons (pe_op op_rep (pe_lst (pa_cons pe_int pa_nil)) pe_int) (pa_cons (pe_lst (pa_cons (pv 1) pa_nil)) pa_nil))))))))))))
      (pss_cons (ps_set (i := 4) sc_law_not_an_outline.nd rfl (.inl rfl) (pe_op op_cat (pv 4) (pe_op op_rep (pe_lst (pa_cons (pe_op op_cat (pe_op op_cat (pe_slice sl_list (pv 1) po_none (po_some (pv 2))) (pe_lst (pa_cons (pv 3) pa_nil))) (pe_slice sl_list (pv 1) (po_some (pe_op op_add (pv 2) pe_int)) po_none)) pa_nil)) pe_int)))
      (pss_one (ps_ret (pe_ix ix_list (pv 4) (pe_callG k__law_draw (hr.mono (by omega)) pas0 (pa_cons (pv 0) (pa_cons pe_int pa_nil))) (fun _ _ => rfl)))))))), ?_⟩
  rw [show L2.start ["source", "made", "at", "odd", "some"] [.ref a, .ref b] = [some (.ref a), some (.ref b), none, none, none] from rfl]
  refine Tr.of ?_ l
  obtain ⟨R_hm, P_hm⟩ := Pick.of_mem hm
  repeat walk_at "hz"
  obtain ⟨R, hp⟩ := Pick.of_mem hm
  have hl := ho.len
  have sm := sz_depths ho
  repeat walk_at "hz"
  refine use_law_draw (by walk_at "pk") hs (by omega) (by omega) (by omega) fun u o_u ul uh hs => ?_
  repeat walk_at "hz"
  refine t_rI (pow_ok 5 (by decide) (by decide) (by decide) (by decide)) ?_
  rw [show (10 : Int) ^ (30 : Int).toNat = 1000000000000000000000000000000 by decide]
  repeat walk_at "hz"
  repeat walk_at "hz"
  have ub := ho.at (i := u) ul uh
  have bb : lastD (-1) (ns.take u.toNat) ≤ ns.length - 2 ∧ -1 ≤ lastD (-1) (ns.take u.toNat) := by
    by_cases c : u.toNat = 0
    · rw [c]; exact ⟨by show (-1 : Int) ≤ _; omega, by show (-1 : Int) ≤ -1; omega⟩
    · have := lastD_bound (-1) (ns.take u.toNat) (chainI_take _ _ _ ho.chain) (by rw [List.length_take]; omega)
      rw [List.length_take] at this
      omega
  refine use_law_draw (by walk_at "pk") hs (by omega) (by omega) (by omega) fun e o_e el eh hs => ?_
  repeat walk_at "hz"
  rename_i pl pz
  obtain ⟨odd, hodd, om⟩ := at_memV (xs := [V.int (-1), .bl true, .bl false, .non, .str "0", .ref pl, .int 1000000000000000000000000000000, .int (atD ns u + ns.length + 2)]) el (by simpa using eh)
  refine t_ixL (by walk_at "pk") hodd ?_
  repeat walk_at "hz"
  refine t_ixL (by walk_at "pk") (at_lastD (-1) (by omega)) ?_
  repeat walk_at "hz"
  rw [rep_ints]
  repeat walk_at "hz"
  rw [cutI_to ul (by omega)]
  repeat walk_at "hz"
  rw [cutI_from (by omega) (by omega)]
  repeat walk_at "hz"
  rename_i r17 r16 r15 r14 r13 r12 r11 r10 r9 r8 r7 r6 r5 r4 r3 r2 r1 r0
  refine Tr.lcast (show _ = [V.ref r2, V.ref r2, V.ref r2, V.ref r2, V.ref r2, V.ref r2, V.ref r2, V.ref r2, V.ref r2, V.ref r2] from rfl) ?_
  repeat walk_at "hz"
  refine use_law_draw (by walk_at "pk") hs (by omega) (by omega) (by omega) fun f9 o_f9 f9l f9h hs => ?_
  repeat walk_at "hz"
  repeat walk_at "hz"
  obtain ⟨x, hx, xm⟩ := at_memV (xs := [V.non, .ref r17, .ref r16, .int 0, .str "0", .ref r15, .ref r13, .ref r11, .ref r9, .ref r8] ++ [V.ref r2, V.ref r2, V.ref r2, V.ref r2, V.ref r2, V.ref r2, V.ref r2, V.ref r2, V.ref r2, V.ref r2]) f9l (by simpa using f9h)
  refine t_ixL (by walk_at "pk") hx ?_
  repeat walk_at "hz"
  have hs2 : Gen (m + 3) o_f9 := hs
  refine t_preV (fun d => Sz 2000000 5 d ∧ outD d = false) (fun d h1 h2 => q x d _ _ h1 h2.1 h2.2 hs2) (by walk_at "pk") (by walk_at "pre") ?_
  clear q
  have i30 : ∀ {ms : List Int}, (∀ n ∈ ms, n ∈ ns) → ∀ d ∈ ms.map PyData.int, Sz 1000 2 d := fun hms d hd => by
    obtain ⟨n, hn, rfl⟩ := List.mem_map.mp hd
    exact sz_small (Nat.lt_trans (sm n (hms n hn)) (by decide))
  have s0 : Sz 1000 2 (.str "0") := (Sz.str (by decide)).le (by decide) (by decide)
  have lb := ho.lastBound
  simp only [List.cons_append, List.nil_append, List.mem_cons, List.not_mem_nil, or_false, or_self] at xm
  rcases xm with rfl | rfl | rfl | rfl | rfl | rfl | rfl | rfl | rfl | rfl | rfl
  · exact ⟨_, .non, Sz.none.le (by decide) (by decide), rfl⟩
  · exact ⟨_, .lst (by walk_at "mb") .nil, (Sz.list (n := 1000) (k := 2) 300 (fun _ h => absurd h (by simp)) (by decide)).le (by decide) (by decide), rfl⟩
  · exact ⟨_, .tup (by walk_at "mb") (DvAll.ints _), (Sz.tuple (n := 1000) (k := 2) 300 (i30 fun n h => h) (by rw [List.length_map]; omega)).le (by decide) (by decide), rfl⟩
  · exact ⟨_, .int _, (sz_small (by decide)).le (by decide) (by decide), rfl⟩
  · exact ⟨_, .str _, s0.le (by decide) (by decide), rfl⟩
  · exact ⟨_, .dct (by walk_at "mb"), Sz.dct.le (by decide) (by decide), rfl⟩
  · refine ⟨_, .lst (by walk_at "mb") ((DvAll.ints [1]).app (DvAll.ints ns)), (Sz.list (n := 1000) (k := 2) 300 (fun e he => ?_) (by simp; omega)).le (by decide) (by decide), not_outD (ns := []) fun i h => by cases h; exact .inr (by decide)⟩
    rcases List.mem_append.mp he with he | he
    · rw [List.mem_singleton.mp he]; exact sz_small (by decide)
    · exact i30 (fun n h => h) e he
  · refine ⟨_, .lst (by walk_at "mb") ((DvAll.ints ns).app (DvAll.ints [lastD (-1) ns + 2])), (Sz.list (n := 1000) (k := 2) 300 (fun e he => ?_) (by simp; omega)).le (by decide) (by decide), not_outD fun i h => by cases h; omega⟩
    rcases List.mem_append.mp he with he | he
    · exact i30 (fun n h => h) e he
    · rw [List.mem_singleton.mp he]; exact sz_small (by omega)
  · refine ⟨_, .lst (by walk_at "mb") (DvAll.ints _), (Sz.list (n := 1000) (k := 2) 300 (fun e he => ?_) (by decide)).le (by decide) (by decide), by rw [outD_ints]; decide⟩
    obtain ⟨n, hn, rfl⟩ := List.mem_map.mp he
    rw [(List.mem_replicate.mp hn).2]; exact sz_small (by decide)
  · exact ⟨_, .lst (by walk_at "mb") (.cons (.ints (ns := ns) (by walk_at "mb")) .nil), (Sz.list (n := 400000) (k := 4) 1 (fun e he => by rw [List.mem_singleton.mp he]; exact (Sz.list (n := 1000) (k := 2) 300 (i30 fun n h => h) (by rw [List.length_map]; omega)).le (by decide) (by decide)) (by simp)).le (by decide) (by decide), not_outD (ns := []) fun i h => by cases h⟩
  · suffices hodd : ∃ d, Dv _ odd d ∧ Sz 1000 2 d ∧ ∀ i, d = .int i → i < 0 ∨ lastD (-1) (ns.take u.toNat) + 1 < i by
      obtain ⟨d, h1, h2, h3⟩ := hodd
      refine ⟨_, .lst (by walk_at "mb") (((DvAll.ints _).app (.cons h1 .nil)).app (DvAll.ints _)), (Sz.list (n := 1000) (k := 2) 300 (fun e he => ?_) ?_).le (by decide) (by decide), ?_⟩
      · rw [List.mem_append, List.mem_append, List.mem_singleton] at he
        rcases he with (he | rfl) | he
        · exact i30 (fun n hn => List.mem_of_mem_take hn) e he
        · exact h2
        · exact i30 (fun n hn => List.mem_of_mem_drop hn) e he
      · simp only [List.length_append, List.length_map, List.length_take, List.length_drop, List.length_singleton]; omega
      · rw [List.append_assoc, List.singleton_append]
        exact not_outD h3
    simp only [List.mem_cons, List.not_mem_nil, or_false] at om
    rcases om with rfl | rfl | rfl | rfl | rfl | rfl | rfl | rfl
    · exact ⟨_, .int _, sz_small (by decide), fun i h => by cases h; omega⟩
    · exact ⟨_, .bl _, (Sz.bool _).le (by decide) (by decide), fun i h => by cases h⟩
    · exact ⟨_, .bl _, (Sz.bool _).le (by decide) (by decide), fun i h => by cases h⟩
    · exact ⟨_, .non, Sz.none.le (by decide) (by decide), fun i h => by cases h⟩
    · exact ⟨_, .str _, s0, fun i h => by cases h⟩
    · exact ⟨_, .lst (by walk_at "mb") (DvAll.ints [0]), (Sz.list (n := 100) (k := 0) 1 (fun d hd => by rw [List.mem_singleton.mp hd]; exact (Sz.int 1 (by decide) (by decide) (by decide)).le (by decide) (by decide)) (by decide)).le (by decide) (by decide), fun i h => by cases h⟩
    · exact ⟨_, .int _, sz_small (by decide), fun i h => by cases h; omega⟩
    · exact ⟨_, .int _, sz_small (by omega), fun i h => by cases h; omega⟩

def sp_law_due  : Sp := fun vs H Q E => ∃ (k : Int) (wr gd p : Addr) (c0 c1 c2 c3 c4 : Bool) (ns : List Int) (h s i j : Int) (du : String × Option Int) (L : Lg), vs = [.int k, .ref wr, .ref gd] ∧ Led H (L) ∧ (0 ≤ k) ∧ (k < 6) ∧ ((wr, HO.lst [.bl c0, .bl c1, .bl c2, .bl c3, .bl c4]) ∈ L) ∧ ((gd, HO.lst [.ref p, .int h, .int s, .int i, .int j]) ∈ L) ∧ ((p, HO.lst (ns.map V.int)) ∈ L) ∧ (Outline ns) ∧ (0 ≤ i) ∧ (i < ns.length) ∧ (du = dueR k (!c0) (!c1) (!c2) (!c3) (!c4) (decide (h ≤ atD ns i)) i) ∧ ∀ (v : V) (N : Lg), (ResV N v du.1 du.2) → Tr ((N ++ L)) (fun H => Q (v) H)
theorem use_law_due {L : Lg} {Q : VK} {E : XK} {k : Int} {wr gd p : Addr} {c0 c1 c2 c3 c4 : Bool} {ns : List Int} {h s i j : Int} {du : String × Option Int} (h0 : 0 ≤ k) (h1 : k < 6) (hw : (wr, HO.lst [.bl c0, .bl c1, .bl c2, .bl c3, .bl c4]) ∈ L) (hgd : (gd, HO.lst [.ref p, .int h, .int s, .int i, .int j]) ∈ L) (hp : (p, HO.lst (ns.map V.int)) ∈ L) (ho : Outline ns) (i0 : 0 ≤ i) (i1 : i < ns.length) (hdu : du = dueR k (!c0) (!c1) (!c2) (!c3) (!c4) (decide (h ≤ atD ns i)) i) (q : ∀ (v : V) (N : Lg), (ResV N v du.1 du.2) → Tr ((N ++ L)) (fun H => Q (v) H)) : Tr L fun H => sp_law_due [.int k, .ref wr, .ref gd] H Q E :=
  fun H l => ⟨k, wr, gd, p, c0, c1, c2, c3, c4, ns, h, s, i, j, du, L, rfl, l, h0, h1, hw, hgd, hp, ho, i0, i1, hdu, q⟩

theorem ok_law_due (D : Df K mg "_law_due" s_law_due) (B : Blt mg) : Ok P w K mg base CX0 1 "_law_due" ["door", "wrong", "good"] sp_law_due := by
  obtain ⟨f, fd, hm, F⟩ := D
  refine ⟨f, fd, hm, F.kp, F.binds (fun _ _ _ _ _ _ us hl => match us, hl with | [_, _, _], _ => rfl), FunOkG F sc_law_due (fun vs H Q E h => ?_) (fun cdv A outer s H vs Q E hr h => ?_), F.lk⟩
  · obtain ⟨_, _, _, _, _, _, _, _, _, _, _, _, _, _, _, _, rfl, _⟩ := h; rfl
  obtain ⟨k, wr, gd, p, c0, c1, c2, c3, c4, ns, h, s, i, j, du, L, rfl, l, h0, h1, hw, hgd, hp, ho, i0, i1, hdu, q⟩ := h
  refine ⟨_, PSs.nox (pss_cons (ps_set (i := 3) sc_law_due.nd rfl (.inl rfl) (pe_ix ix_list (pe_lst (pa_cons (pe_lst (pa_cons pe_int (pa_cons pe_int pa_nil))) (pa_cons (pe_lst (pa_cons pe_int (pa_cons pe_int (pa_cons pe_int pa_nil)))) (pa_cons (pe_lst (pa_cons pe_int (pa_cons pe_int (pa_cons pe_int pa_nil)))) (pa_cons (pe_lst (pa_cons pe_int (pa_cons pe_int (pa_cons pe_int pa_nil)))) (pa_cons (pe_lst (pa_cons pe_int (pa_cons pe_int (pa_cons pe_int (pa_cons pe_int pa_nil))))) (pa_cons (pe_lst (pa_cons pe_int (pa_cons pe_int (pa_cons pe_int (pa_cons pe_int pa_nil))))) pa_nil))))))) (pv 0) (fun _ _ => rfl)))
      (pss_cons (ps_set (i := 4) sc_law_due.nd rfl (.inl rfl) (pe_lst (pa_cons pe_str (pa_cons pe_str (pa_cons pe_str (pa_cons pe_str (pa_cons pe_str pa_nil)))))))
      (pss_cons (ps_for PassesOwn.never rfl (pi_list (pv 3)) (pg_name (i := 5) sc_law_due.nd rfl (.inl rfl))
        (pss_one (ps_if (pt_val (pe_ix ix_list (pv 1) (pv 5) (fun _ _ => rfl))) (pss_one (ps_ret (pe_ix ix_list (pv 4) (pv 5) (fun _ _ => rfl))))
        pss_nil)))
      (pss_cons (ps_asg (pv 2) (pg_lst rfl (pgs_cons (pg_name (i := 6) sc_law_due.nd rfl (.inl rfl)) (pgs_cons (pg_name (i := 7) sc_law_due.nd rfl (.inl rfl)) (pgs_cons (pg_name (i := 8) sc_law_due.nd rfl (.inl rfl)) (pgs_cons (pg_name (i := 9) sc_law_due.nd rfl (.inl rfl)) (pgs_cons (pg_name (i := 10) sc_law_due.nd rfl (.inl rfl)) pgs_nil)))))))
      (pss_one (ps_ret (pe_ifExp (PW.pt (pw_and (pt_cmpR op_eq (pv 0) pe_int (nomark _)) (pw_and1 (pt_cmpR op_ge (pe_ix ix_list (pv 6) (pv 9) (fun _ _ => rfl)) (pv 7) (nomark _))))) (pe_tup (pa_cons pe_str (pa_cons (pv 9) pa_nil))) pe_str))))))), ?_⟩
  rw [show L2.start ["door", "wrong", "good", "used", "names", "spot", "made", "rows", "place", "at", "to"] [.int k, .ref wr, .ref gd] = [some (.int k), some (.ref wr), some (.ref gd), none, none, none, none, none, none, none, none] from rfl]
  refine Tr.of ?_ l
  obtain ⟨R_hw, P_hw⟩ := Pick.of_mem hw
  obtain ⟨R_hgd, P_hgd⟩ := Pick.of_mem hgd
  obtain ⟨R_hp, P_hp⟩ := Pick.of_mem hp
  repeat walk_at "hz"
  obtain rfl | rfl | rfl | rfl | rfl | rfl : k = 0 ∨ k = 1 ∨ k = 2 ∨ k = 3 ∨ k = 4 ∨ k = 5 := by omega
  · repeat walk_at "hz"
    rename_i u0 u1 u2 u3 u4 u5 uo nm
    refine t_forK (wk_list (xs := [V.int 0, .int 2])) (fun t ((j5, j6, j7, j8, j9, j10) : Option V × Option V × Option V × Option V × Option V × Option V) => [some (.int 0), some (.ref wr), some (.ref gd), some (.ref u0), some (.ref nm), j5, j6, j7, j8, j9, j10]) (fun t ((j5, j6, j7, j8, j9, j10) : Option V × Option V × Option V × Option V × Option V × Option V) => (nm, .lst [.str "outline", .str "height", .str "scroll", .str "line", .str "line"]) :: (u0, .lst [.int 0, .int 2]) :: L) (fun t ((j5, j6, j7, j8, j9, j10) : Option V × Option V × Option V × Option V × Option V × Option V) => (0 < t → c0 = false) ∧ (1 < t → c2 = false)) ⟨(_, _, _, _, _, _), ⟨fun z => by omega, fun z => by omega⟩, rfl, (by walk_at "sb")⟩ (fun _ _ _ => ⟨_, (by walk_at "pk")⟩) ?_ ?_
    · rintro t ⟨j5, j6, j7, j8, j9, j10⟩ v L' ht iv ⟨hv, rfl⟩
      try dsimp only at iv ⊢
      simp only [List.nil_append, List.cons_append]
      have ht2 : t < 2 := ht
      obtain ⟨g0, g1⟩ := iv
      obtain rfl | rfl : t = 0 ∨ t = 1 := by omega
      · cases hv
        repeat walk_at "hz"
        refine t_ite (fun x => ?_) fun x => ?_
        · repeat walk_at "hz"
          have hd : du = ("outline", none) := by rw [hdu, x]; first | rfl | (cases c1 <;> rfl)
          subst hd
          exact (q _ [] ⟨rfl, rfl⟩).sub (by walk_at "sb")
        · repeat walk_at "hz"
          refine t_pst (_, _, _, _, _, _) ⟨fun _ => x, fun z => by omega⟩ rfl (by walk_at "sb")
      · cases hv
        have z0 := g0 (by omega)
        repeat walk_at "hz"
        refine t_ite (fun x => ?_) fun x => ?_
        · repeat walk_at "hz"
          have hd : du = ("scroll", none) := by rw [hdu, z0, x]; first | rfl | (cases c1 <;> rfl)
          subst hd
          exact (q _ [] ⟨rfl, rfl⟩).sub (by walk_at "sb")
        · repeat walk_at "hz"
          refine t_pst (_, _, _, _, _, _) ⟨fun _ => z0, fun _ => x⟩ rfl (by walk_at "sb")
    · rintro ⟨j5, j6, j7, j8, j9, j10⟩ iv
      try dsimp only at iv ⊢
      obtain ⟨g0, g1⟩ := iv
      have z0 := g0 (by simp)
      have z1 := g1 (by simp)
      repeat walk_at "hz"
      have hd : du = ("none", none) := by rw [hdu, z0, z1]; first | rfl | (cases c1 <;> rfl)
      subst hd
      exact (q _ [] ⟨rfl, rfl⟩).sub (by walk_at "sb")
  · repeat walk_at "hz"
    rename_i u0 u1 u2 u3 u4 u5 uo nm
    refine t_forK (wk_list (xs := [V.int 0, .int 1, .int 2])) (fun t ((j5, j6, j7, j8, j9, j10) : Option V × Option V × Option V × Option V × Option V × Option V) => [some (.int 1), some (.ref wr), some (.ref gd), some (.ref u1), some (.ref nm), j5, j6, j7, j8, j9, j10]) (fun t ((j5, j6, j7, j8, j9, j10) : Option V × Option V × Option V × Option V × Option V × Option V) => (nm, .lst [.str "outline", .str "height", .str "scroll", .str "line", .str "line"]) :: (u1, .lst [.int 0, .int 1, .int 2]) :: L) (fun t ((j5, j6, j7, j8, j9, j10) : Option V × Option V × Option V × Option V × Option V × Option V) => (0 < t → c0 = false) ∧ (1 < t → c1 = false) ∧ (2 < t → c2 = false)) ⟨(_, _, _, _, _, _), ⟨fun z => by omega, fun z => by omega, fun z => by omega⟩, rfl, (by walk_at "sb")⟩ (fun _ _ _ => ⟨_, (by walk_at "pk")⟩) ?_ ?_
    · rintro t ⟨j5, j6, j7, j8, j9, j10⟩ v L' ht iv ⟨hv, rfl⟩
      try dsimp only at iv ⊢
      simp only [List.nil_append, List.cons_append]
      have ht2 : t < 3 := ht
      obtain ⟨g0, g1, g2⟩ := iv
      obtain rfl | rfl | rfl : t = 0 ∨ t = 1 ∨ t = 2 := by omega
      · cases hv
        repeat walk_at "hz"
        refine t_ite (fun x => ?_) fun x => ?_
        · repeat walk_at "hz"
          have hd : du = ("outline", none) := by rw [hdu, x]; first | rfl | (cases c1 <;> rfl)
          subst hd
          exact (q _ [] ⟨rfl, rfl⟩).sub (by walk_at "sb")
        · repeat walk_at "hz"
          refine t_pst (_, _, _, _, _, _) ⟨fun _ => x, fun z => by omega, fun z => by omega⟩ rfl (by walk_at "sb")
      · cases hv
        have z0 := g0 (by omega)
        repeat walk_at "hz"
        refine t_ite (fun x => ?_) fun x => ?_
        · repeat walk_at "hz"
          have hd : du = ("height", none) := by rw [hdu, z0, x]; first | rfl | (cases c1 <;> rfl)
          subst hd
          exact (q _ [] ⟨rfl, rfl⟩).sub (by walk_at "sb")
        · repeat walk_at "hz"
          refine t_pst (_, _, _, _, _, _) ⟨fun _ => z0, fun _ => x, fun z => by omega⟩ rfl (by walk_at "sb")
      · cases hv
        have z0 := g0 (by omega)
        have z1 := g1 (by omega)
        repeat walk_at "hz"
        refine t_ite (fun x => ?_) fun x => ?_
        · repeat walk_at "hz"
          have hd : du = ("scroll", none) := by rw [hdu, z0, z1, x]; first | rfl | (cases c1 <;> rfl)
          subst hd
          exact (q _ [] ⟨rfl, rfl⟩).sub (by walk_at "sb")
        · repeat walk_at "hz"
          refine t_pst (_, _, _, _, _, _) ⟨fun _ => z0, fun _ => z1, fun _ => x⟩ rfl (by walk_at "sb")
    · rintro ⟨j5, j6, j7, j8, j9, j10⟩ iv
      try dsimp only at iv ⊢
      obtain ⟨g0, g1, g2⟩ := iv
      have z0 := g0 (by simp)
      have z1 := g1 (by simp)
      have z2 := g2 (by simp)
      repeat walk_at "hz"
      have hd : du = ("none", none) := by rw [hdu, z0, z1, z2]; first | rfl | (cases c1 <;> rfl)
      subst hd
      exact (q _ [] ⟨rfl, rfl⟩).sub (by walk_at "sb")
  · repeat walk_at "hz"
    rename_i u0 u1 u2 u3 u4 u5 uo nm
    refine t_forK (wk_list (xs := [V.int 0, .int 1, .int 2])) (fun t ((j5, j6, j7, j8, j9, j10) : Option V × Option V × Option V × Option V × Option V × Option V) => [some (.int 2), some (.ref wr), some (.ref gd), some (.ref u2), some (.ref nm), j5, j6, j7, j8, j9, j10]) (fun t ((j5, j6, j7, j8, j9, j10) : Option V × Option V × Option V × Option V × Option V × Option V) => (nm, .lst [.str "outline", .str "height", .str "scroll", .str "line", .str "line"]) :: (u2, .lst [.int 0, .int 1, .int 2]) :: L) (fun t ((j5, j6, j7, j8, j9, j10) : Option V × Option V × Option V × Option V × Option V × Option V) => (0 < t → c0 = false) ∧ (1 < t → c1 = false) ∧ (2 < t → c2 = false)) ⟨(_, _, _, _, _, _), ⟨fun z => by omega, fun z => by omega, fun z => by omega⟩, rfl, (by walk_at "sb")⟩ (fun _ _ _ => ⟨_, (by walk_at "pk")⟩) ?_ ?_
    · rintro t ⟨j5, j6, j7, j8, j9, j10⟩ v L' ht iv ⟨hv, rfl⟩
      try dsimp only at iv ⊢
      simp only [List.nil_append, List.cons_append]
      have ht2 : t < 3 := ht
      obtain ⟨g0, g1, g2⟩ := iv
      obtain rfl | rfl | rfl : t = 0 ∨ t = 1 ∨ t = 2 := by omega
      · cases hv
        repeat walk_at "hz"
        refine t_ite (fun x => ?_) fun x => ?_
        · repeat walk_at "hz"
          have hd : du = ("outline", none) := by rw [hdu, x]; first | rfl | (cases c1 <;> rfl)
          subst hd
          exact (q _ [] ⟨rfl, rfl⟩).sub (by walk_at "sb")
        · repeat walk_at "hz"
          refine t_pst (_, _, _, _, _, _) ⟨fun _ => x, fun z => by omega, fun z => by omega⟩ rfl (by walk_at "sb")
      · cases hv
        have z0 := g0 (by omega)
        repeat walk_at "hz"
        refine t_ite (fun x => ?_) fun x => ?_
        · repeat walk_at "hz"
          have hd : du = ("height", none) := by rw [hdu, z0, x]; first | rfl | (cases c1 <;> rfl)
          subst hd
          exact (q _ [] ⟨rfl, rfl⟩).sub (by walk_at "sb")
        · repeat walk_at "hz"
          refine t_pst (_, _, _, _, _, _) ⟨fun _ => z0, fun _ => x, fun z => by omega⟩ rfl (by walk_at "sb")
      · cases hv
        have z0 := g0 (by omega)
        have z1 := g1 (by omega)
        repeat walk_at "hz"
        refine t_ite (fun x => ?_) fun x => ?_
        · repeat walk_at "hz"
          have hd : du = ("scroll", none) := by rw [hdu, z0, z1, x]; first | rfl | (cases c1 <;> rfl)
          subst hd
          exact (q _ [] ⟨rfl, rfl⟩).sub (by walk_at "sb")
        · repeat walk_at "hz"
          refine t_pst (_, _, _, _, _, _) ⟨fun _ => z0, fun _ => z1, fun _ => x⟩ rfl (by walk_at "sb")
    · rintro ⟨j5, j6, j7, j8, j9, j10⟩ iv
      try dsimp only at iv ⊢
      obtain ⟨g0, g1, g2⟩ := iv
      have z0 := g0 (by simp)
      have z1 := g1 (by simp)
      have z2 := g2 (by simp)
      repeat walk_at "hz"
      have hd : du = ("none", none) := by rw [hdu, z0, z1, z2]; first | rfl | (cases c1 <;> rfl)
      subst hd
      exact (q _ [] ⟨rfl, rfl⟩).sub (by walk_at "sb")
  · repeat walk_at "hz"
    rename_i u0 u1 u2 u3 u4 u5 uo nm
    refine t_forK (wk_list (xs := [V.int 0, .int 1, .int 3])) (fun t ((j5, j6, j7, j8, j9, j10) : Option V × Option V × Option V × Option V × Option V × Option V) => [some (.int 3), some (.ref wr), some (.ref gd), some (.ref u3), some (.ref nm), j5, j6, j7, j8, j9, j10]) (fun t ((j5, j6, j7, j8, j9, j10) : Option V × Option V × Option V × Option V × Option V × Option V) => (nm, .lst [.str "outline", .str "height", .str "scroll", .str "line", .str "line"]) :: (u3, .lst [.int 0, .int 1, .int 3]) :: L) (fun t ((j5, j6, j7, j8, j9, j10) : Option V × Option V × Option V × Option V × Option V × Option V) => (0 < t → c0 = false) ∧ (1 < t → c1 = false) ∧ (2 < t → c3 = false)) ⟨(_, _, _, _, _, _), ⟨fun z => by omega, fun z => by omega, fun z => by omega⟩, rfl, (by walk_at "sb")⟩ (fun _ _ _ => ⟨_, (by walk_at "pk")⟩) ?_ ?_
    · rintro t ⟨j5, j6, j7, j8, j9, j10⟩ v L' ht iv ⟨hv, rfl⟩
      try dsimp only at iv ⊢
      simp only [List.nil_append, List.cons_append]
      have ht2 : t < 3 := ht
      obtain ⟨g0, g1, g2⟩ := iv
      obtain rfl | rfl | rfl : t = 0 ∨ t = 1 ∨ t = 2 := by omega
      · cases hv
        repeat walk_at "hz"
        refine t_ite (fun x => ?_) fun x => ?_
        · repeat walk_at "hz"
          have hd : du = ("outline", none) := by rw [hdu, x]; first | rfl | (cases c1 <;> rfl)
          subst hd
          exact (q _ [] ⟨rfl, rfl⟩).sub (by walk_at "sb")
        · repeat walk_at "hz"
          refine t_pst (_, _, _, _, _, _) ⟨fun _ => x, fun z => by omega, fun z => by omega⟩ rfl (by walk_at "sb")
      · cases hv
        have z0 := g0 (by omega)
        repeat walk_at "hz"
        refine t_ite (fun x => ?_) fun x => ?_
        · repeat walk_at "hz"
          have hd : du = ("height", none) := by rw [hdu, z0, x]; first | rfl | (cases c1 <;> rfl)
          subst hd
          exact (q _ [] ⟨rfl, rfl⟩).sub (by walk_at "sb")
        · repeat walk_at "hz"
          refine t_pst (_, _, _, _, _, _) ⟨fun _ => z0, fun _ => x, fun z => by omega⟩ rfl (by walk_at "sb")
      · cases hv
        have z0 := g0 (by omega)
        have z1 := g1 (by omega)
        repeat walk_at "hz"
        refine t_ite (fun x => ?_) fun x => ?_
        · repeat walk_at "hz"
          have hd : du = ("line", none) := by rw [hdu, z0, z1, x]; first | rfl | (cases c1 <;> rfl)
          subst hd
          exact (q _ [] ⟨rfl, rfl⟩).sub (by walk_at "sb")
        · repeat walk_at "hz"
          refine t_pst (_, _, _, _, _, _) ⟨fun _ => z0, fun _ => z1, fun _ => x⟩ rfl (by walk_at "sb")
    · rintro ⟨j5, j6, j7, j8, j9, j10⟩ iv
      try dsimp only at iv ⊢
      obtain ⟨g0, g1, g2⟩ := iv
      have z0 := g0 (by simp)
      have z1 := g1 (by simp)
      have z2 := g2 (by simp)
      repeat walk_at "hz"
      have hd : du = ("none", none) := by rw [hdu, z0, z1, z2]; first | rfl | (cases c1 <;> rfl)
      subst hd
      exact (q _ [] ⟨rfl, rfl⟩).sub (by walk_at "sb")
  · repeat walk_at "hz"
    rename_i u0 u1 u2 u3 u4 u5 uo nm
    refine t_forK (wk_list (xs := [V.int 0, .int 1, .int 2, .int 3])) (fun t ((j5, j6, j7, j8, j9, j10) : Option V × Option V × Option V × Option V × Option V × Option V) => [some (.int 4), some (.ref wr), some (.ref gd), some (.ref u4), some (.ref nm), j5, j6, j7, j8, j9, j10]) (fun t ((j5, j6, j7, j8, j9, j10) : Option V × Option V × Option V × Option V × Option V × Option V) => (nm, .lst [.str "outline", .str "height", .str "scroll", .str "line", .str "line"]) :: (u4, .lst [.int 0, .int 1, .int 2, .int 3]) :: L) (fun t ((j5, j6, j7, j8, j9, j10) : Option V × Option V × Option V × Option V × Option V × Option V) => (0 < t → c0 = false) ∧ (1 < t → c1 = false) ∧ (2 < t → c2 = false) ∧ (3 < t → c3 = false)) ⟨(_, _, _, _, _, _), ⟨fun z => by omega, fun z => by omega, fun z => by omega, fun z => by omega⟩, rfl, (by walk_at "sb")⟩ (fun _ _ _ => ⟨_, (by walk_at "pk")⟩) ?_ ?_
    · rintro t ⟨j5, j6, j7, j8, j9, j10⟩ v L' ht iv ⟨hv, rfl⟩
      try dsimp only at iv ⊢
      simp only [List.nil_append, List.cons_append]
      have ht2 : t < 4 := ht
      obtain ⟨g0, g1, g2, g3⟩ := iv
      obtain rfl | rfl | rfl | rfl : t = 0 ∨ t = 1 ∨ t = 2 ∨ t = 3 := by omega
      · cases hv
        repeat walk_at "hz"
        refine t_ite (fun x => ?_) fun x => ?_
        · repeat walk_at "hz"
          have hd : du = ("outline", none) := by rw [hdu, x]; first | rfl | (cases c1 <;> rfl)
          subst hd
          exact (q _ [] ⟨rfl, rfl⟩).sub (by walk_at "sb")
        · repeat walk_at "hz"
          refine t_pst (_, _, _, _, _, _) ⟨fun _ => x, fun z => by omega, fun z => by omega, fun z => by omega⟩ rfl (by walk_at "sb")
      · cases hv
        have z0 := g0 (by omega)
        repeat walk_at "hz"
        refine t_ite (fun x => ?_) fun x => ?_
        · repeat walk_at "hz"
          have hd : du = ("height", none) := by rw [hdu, z0, x]; first | rfl | (cases c1 <;> rfl)
          subst hd
          exact (q _ [] ⟨rfl, rfl⟩).sub (by walk_at "sb")
        · repeat walk_at "hz"
          refine t_pst (_, _, _, _, _, _) ⟨fun _ => z0, fun _ => x, fun z => by omega, fun z => by omega⟩ rfl (by walk_at "sb")
      · cases hv
        have z0 := g0 (by omega)
        have z1 := g1 (by omega)
        repeat walk_at "hz"
        refine t_ite (fun x => ?_) fun x => ?_
        · repeat walk_at "hz"
          have hd : du = ("scroll", none) := by rw [hdu, z0, z1, x]; first | rfl | (cases c1 <;> rfl)
          subst hd
          exact (q _ [] ⟨rfl, rfl⟩).sub (by walk_at "sb")
        · repeat walk_at "hz"
          refine t_pst (_, _, _, _, _, _) ⟨fun _ => z0, fun _ => z1, fun _ => x, fun z => by omega⟩ rfl (by walk_at "sb")
      · cases hv
        have z0 := g0 (by omega)
        have z1 := g1 (by omega)
        have z2 := g2 (by omega)
        repeat walk_at "hz"
        refine t_ite (fun x => ?_) fun x => ?_
        · repeat walk_at "hz"
          have hd : du = ("line", none) := by rw [hdu, z0, z1, z2, x]; first | rfl | (cases c1 <;> rfl)
          subst hd
          exact (q _ [] ⟨rfl, rfl⟩).sub (by walk_at "sb")
        · repeat walk_at "hz"
          refine t_pst (_, _, _, _, _, _) ⟨fun _ => z0, fun _ => z1, fun _ => z2, fun _ => x⟩ rfl (by walk_at "sb")
    · rintro ⟨j5, j6, j7, j8, j9, j10⟩ iv
      try dsimp only at iv ⊢
      obtain ⟨g0, g1, g2, g3⟩ := iv
      have z0 := g0 (by simp)
      have z1 := g1 (by simp)
      have z2 := g2 (by simp)
      have z3 := g3 (by simp)
      repeat walk_at "hz"
      refine t_iteD (fun x => ?_) fun x => ?_
      · repeat walk_at "hz"
        have hd : du = ("deep", some i) := by rw [hdu, z0, z1, z2, z3, decide_eq_true x]; rfl
        subst hd
        rename_i pt
        exact (q (.ref pt) [_] ⟨pt, rfl, rfl⟩).sub (by walk_at "sb")
      · repeat walk_at "hz"
        have hd : du = ("none", none) := by rw [hdu, z0, z1, z2, z3, decide_eq_false x]; rfl
        subst hd
        exact (q _ [] ⟨rfl, rfl⟩).sub (by walk_at "sb")
  · repeat walk_at "hz"
    rename_i u0 u1 u2 u3 u4 u5 uo nm
    refine t_forK (wk_list (xs := [V.int 0, .int 1, .int 3, .int 4])) (fun t ((j5, j6, j7, j8, j9, j10) : Option V × Option V × Option V × Option V × Option V × Option V) => [some (.int 5), some (.ref wr), some (.ref gd), some (.ref u5), some (.ref nm), j5, j6, j7, j8, j9, j10]) (fun t ((j5, j6, j7, j8, j9, j10) : Option V × Option V × Option V × Option V × Option V × Option V) => (nm, .lst [.str "outline", .str "height", .str "scroll", .str "line", .str "line"]) :: (u5, .lst [.int 0, .int 1, .int 3, .int 4]) :: L) (fun t ((j5, j6, j7, j8, j9, j10) : Option V × Option V × Option V × Option V × Option V × Option V) => (0 < t → c0 = false) ∧ (1 < t → c1 = false) ∧ (2 < t → c3 = false) ∧ (3 < t → c4 = false)) ⟨(_, _, _, _, _, _), ⟨fun z => by omega, fun z => by omega, fun z => by omega, fun z => by omega⟩, rfl, (by walk_at "sb")⟩ (fun _ _ _ => ⟨_, (by walk_at "pk")⟩) ?_ ?_
    · rintro t ⟨j5, j6, j7, j8, j9, j10⟩ v L' ht iv ⟨hv, rfl⟩
      try dsimp only at iv ⊢
      simp only [List.nil_append, List.cons_append]
      have ht2 : t < 4 := ht
      obtain ⟨g0, g1, g2, g3⟩ := iv
      obtain rfl | rfl | rfl | rfl : t = 0 ∨ t = 1 ∨ t = 2 ∨ t = 3 := by omega
      · cases hv
        repeat walk_at "hz"
        refine t_ite (fun x => ?_) fun x => ?_
        · repeat walk_at "hz"
          have hd : du = ("outline", none) := by rw [hdu, x]; first | rfl | (cases c1 <;> rfl)
          subst hd
          exact (q _ [] ⟨rfl, rfl⟩).sub (by walk_at "sb")
        · repeat walk_at "hz"
          refine t_pst (_, _, _, _, _, _) ⟨fun _ => x, fun z => by omega, fun z => by omega, fun z => by omega⟩ rfl (by walk_at "sb")
      · cases hv
        have z0 := g0 (by omega)
        repeat walk_at "hz"
        refine t_ite (fun x => ?_) fun x => ?_
        · repeat walk_at "hz"
          have hd : du = ("height", none) := by rw [hdu, z0, x]; first | rfl | (cases c1 <;> rfl)
          subst hd
          exact (q _ [] ⟨rfl, rfl⟩).sub (by walk_at "sb")
        · repeat walk_at "hz"
          refine t_pst (_, _, _, _, _, _) ⟨fun _ => z0, fun _ => x, fun z => by omega, fun z => by omega⟩ rfl (by walk_at "sb")
      · cases hv
        have z0 := g0 (by omega)
        have z1 := g1 (by omega)
        repeat walk_at "hz"
        refine t_ite (fun x => ?_) fun x => ?_
        · repeat walk_at "hz"
          have hd : du = ("line", none) := by rw [hdu, z0, z1, x]; first | rfl | (cases c1 <;> rfl)
          subst hd
          exact (q _ [] ⟨rfl, rfl⟩).sub (by walk_at "sb")
        · repeat walk_at "hz"
          refine t_pst (_, _, _, _, _, _) ⟨fun _ => z0, fun _ => z1, fun _ => x, fun z => by omega⟩ rfl (by walk_at "sb")
      · cases hv
        have z0 := g0 (by omega)
        have z1 := g1 (by omega)
        have z2 := g2 (by omega)
        repeat walk_at "hz"
        refine t_ite (fun x => ?_) fun x => ?_
        · repeat walk_at "hz"
          have hd : du = ("line", none) := by rw [hdu, z0, z1, z2, x]; first | rfl | (cases c1 <;> rfl)
          subst hd
          exact (q _ [] ⟨rfl, rfl⟩).sub (by walk_at "sb")
        · repeat walk_at "hz"
          refine t_pst (_, _, _, _, _, _) ⟨fun _ => z0, fun _ => z1, fun _ => z2, fun _ => x⟩ rfl (by walk_at "sb")
    · rintro ⟨j5, j6, j7, j8, j9, j10⟩ iv
      try dsimp only at iv ⊢
      obtain ⟨g0, g1, g2, g3⟩ := iv
      have z0 := g0 (by simp)
      have z1 := g1 (by simp)
      have z2 := g2 (by simp)
      have z3 := g3 (by simp)
      repeat walk_at "hz"
      have hd : du = ("none", none) := by rw [hdu, z0, z1, z2, z3]; first | rfl | (cases c1 <;> rfl)
      subst hd
      exact (q _ [] ⟨rfl, rfl⟩).sub (by walk_at "sb")

def sp_law_last  : Sp := fun vs H Q E => ∃ (a : Addr) (ns : List Int) (L : Lg), vs = [.ref a] ∧ Led H (L) ∧ ((a, .lst (ns.map V.int)) ∈ L) ∧ (1 ≤ ns.length) ∧ Tr (L) (fun H => Q (.int (lsI ns)) H)
theorem use_law_last {L : Lg} {Q : VK} {E : XK} {a : Addr} {ns : List Int} (hm : (a, .lst (ns.map V.int)) ∈ L) (h0 : 1 ≤ ns.length) (q : Tr (L) (fun H => Q (.int (lsI ns)) H)) : Tr L fun H => sp_law_last [.ref a] H Q E :=
  fun H l => ⟨a, ns, L, rfl, l, hm, h0, q⟩

theorem ok_law_last (D : Df K mg "_law_last" s_law_last) (B : Blt mg) : Ok P w K mg base CX0 1 "_law_last" ["made"] sp_law_last := by
  obtain ⟨f, fd, hm, F⟩ := D
  refine ⟨f, fd, hm, F.kp, F.binds (fun _ _ _ _ _ _ us hl => match us, hl with | [_], _ => rfl), FunOkG F sc_law_last (fun vs H Q E h => ?_) (fun cdv A outer s H vs Q E hr h => ?_), F.lk⟩
  · obtain ⟨_, _, _, rfl, _⟩ := h; rfl
  obtain ⟨a, ns, L, rfl, l, hm, h0, q⟩ := h
  refine ⟨_, PSs.nox (pss_one (ps_ret (pe_op op_sub (pe_op op_sub (pe_callB c_len rfl B.len_ boot_len (pa_cons (pv 0) pa_nil)) pe_int) (pe_ix ix_list (pv 0) (pe_un un_neg pe_int) (fun _ _ => rfl))))), ?_⟩
  rw [show L2.start ["made"] [.ref a] = [some (.ref a)] from rfl]
  refine Tr.of ?_ l
  obtain ⟨R_hm, P_hm⟩ := Pick.of_mem hm
  repeat walk_at "hz"
  refine t_ixL (by walk_at "pk") (at_lastD (-1) h0) ?_
  repeat walk_at "hz"
  exact q
theorem resD_sh (w : String) (o : Option Int) : SeqAt.shaped (resD w o) = true := by
  have h := strOk_of w
  cases o with
  | none => unfold SeqAt.shaped; simp [resD, PyData.canLay0, PyData.depth, h]
  | some l => unfold SeqAt.shaped; simp [resD, PyData.canLay0, PyData.canLayAll0, PyData.depth, PyData.depthAll, h]
theorem resD_eq (w : String) (o : Option Int) : PyData.eqv (resD w o) (resD w o) = true := by
  cases o with
  | none => simp [resD, PyData.eqv]
  | some l => simp [resD, PyData.eqv, PyData.eqvAll]
theorem dueR_same {k : Int} {b0 b1 b2 b3 b4 dp dp' : Bool} {l l' : Int} (h : b1 = true → b3 = true → dp = dp' ∧ l = l') (h0 : 0 ≤ k) (h1 : k < 6) : dueR k b0 b1 b2 b3 b4 dp l = dueR k b0 b1 b2 b3 b4 dp' l' := by
  cases b1 with
  | false =>
    obtain rfl | rfl | rfl | rfl | rfl | rfl : k = 0 ∨ k = 1 ∨ k = 2 ∨ k = 3 ∨ k = 4 ∨ k = 5 := by omega
    all_goals rfl
  | true =>
    cases b3 with
    | true =>
      obtain ⟨rfl, rfl⟩ := h rfl rfl
      rfl
    | false =>
      obtain rfl | rfl | rfl | rfl | rfl | rfl : k = 0 ∨ k = 1 ∨ k = 2 ∨ k = 3 ∨ k = 4 ∨ k = 5 := by omega
      all_goals rfl
theorem dpI_eq {ns : List Int} {h i : Int} (ho : Outline ns) (h0 : 1 ≤ h) (i0 : 0 ≤ i) (i1 : i < ns.length) : dpI ns h i = decide (h ≤ atD ns i) := by
  have := ho.at i0 i1
  unfold dpI
  exact decide_eq_decide.mpr (by omega)
def dpR (ns : List Int) : V → V → Bool
  | .int h, .int i => dpI ns h i
  | _, _ => false
def lnR : V → Int
  | .int i => i
  | _ => 0
/-- an argument with its data -/
def Arg (M : Lg) (v : V) : Prop := ∃ d, Small M v d
theorem Arg.mono {L M : Lg} {v : V} (h : Arg L v) (s : ∀ p ∈ L, p ∈ M) : Arg M v := by
  obtain ⟨d, h⟩ := h
  exact ⟨d, h.mono s⟩
theorem Arg.int (M : Lg) {i : Int} (h : i.natAbs < 2 ^ 110) : Arg M (.int i) := ⟨_, .int i, (sz_small h).le (by decide) (by decide)⟩
theorem Arg.bl (M : Lg) (b : Bool) : Arg M (.bl b) := ⟨_, .bl b, (Sz.bool _).le (by decide) (by decide)⟩
theorem Arg.non (M : Lg) : Arg M .non := ⟨_, .non, Sz.none.le (by decide) (by decide)⟩
theorem Arg.str1 (M : Lg) : Arg M (.str "1") := ⟨_, .str _, (Sz.str (by decide)).le (by decide) (by decide)⟩
theorem Arg.one {M : Lg} {p : Addr} {i : Int} (hp : (p, HO.lst [.int i]) ∈ M) (h : i.natAbs < 2 ^ 110) : Arg M (.ref p) :=
  ⟨.list [.int i], .lst hp (DvAll.ints [i]), (Sz.list (n := 1000) (k := 2) 1 (fun d hd => by rw [List.mem_singleton.mp hd]; exact sz_small h) (by simp)).le (by decide) (by decide)⟩
theorem Arg.oneT {M : Lg} {p : Addr} {i : Int} (hp : (p, HO.tup [.int i]) ∈ M) (h : i.natAbs < 2 ^ 110) : Arg M (.ref p) :=
  ⟨.tuple [.int i], .tup hp (DvAll.ints [i]), (Sz.tuple (n := 1000) (k := 2) 1 (fun d hd => by rw [List.mem_singleton.mp hd]; exact sz_small h) (by simp)).le (by decide) (by decide)⟩
theorem Arg.dct {M : Lg} {p : Addr} (hp : (p, HO.dK []) ∈ M) : Arg M (.ref p) := ⟨_, .dct hp, Sz.dct.le (by decide) (by decide)⟩
theorem bad_h19 {M : Lg} {p t : Addr} {v : V} (hp : (p, HO.lst [.int 1]) ∈ M) (ht : (t, HO.tup [.int 3]) ∈ M) (h : v ∈ [V.non, .bl true, .str "1", .ref p, .int (-1), .int 1000000000000000000000000000000] ++ [V.int 0, .int 401, .ref t]) : htV v = false ∧ Arg M v := by
  simp only [List.cons_append, List.nil_append, List.mem_cons, List.not_mem_nil, or_false] at h
  rcases h with rfl | rfl | rfl | rfl | rfl | rfl | rfl | rfl | rfl
  · exact ⟨rfl, .non M⟩
  · exact ⟨rfl, .bl M _⟩
  · exact ⟨rfl, .str1 M⟩
  · exact ⟨rfl, .one hp (by decide)⟩
  · exact ⟨by decide, .int M (by decide)⟩
  · exact ⟨by decide, .int M (by decide)⟩
  · exact ⟨by decide, .int M (by decide)⟩
  · exact ⟨by decide, .int M (by decide)⟩
  · exact ⟨rfl, .oneT ht (by decide)⟩
theorem bad_s19 {M : Lg} {p t : Addr} {v : V} {l n : Int} (l0 : 0 ≤ l) (l1 : l < n) (n1 : n ≤ 300) (hp : (p, HO.lst [.int 1]) ∈ M) (ht : (t, HO.dK []) ∈ M) (h : v ∈ [V.non, .bl true, .str "1", .ref p, .int (-1), .int 1000000000000000000000000000000] ++ [V.int (l + 1), .int n, .ref t]) : scV l v = false ∧ Arg M v := by
  simp only [List.cons_append, List.nil_append, List.mem_cons, List.not_mem_nil, or_false] at h
  rcases h with rfl | rfl | rfl | rfl | rfl | rfl | rfl | rfl | rfl
  · exact ⟨rfl, .non M⟩
  · exact ⟨rfl, .bl M _⟩
  · exact ⟨rfl, .str1 M⟩
  · exact ⟨rfl, .one hp (by decide)⟩
  · exact ⟨by rw [scV_int, decide_eq_false (show ¬ (0 : Int) ≤ -1 by omega)]; rfl, .int M (by decide)⟩
  · exact ⟨by rw [scV_int, decide_eq_false (show ¬ (1000000000000000000000000000000 : Int) ≤ l by omega), Bool.and_false], .int M (by decide)⟩
  · exact ⟨by rw [scV_int, decide_eq_false (show ¬ l + 1 ≤ l by omega), Bool.and_false], .int M (by omega)⟩
  · exact ⟨by rw [scV_int, decide_eq_false (show ¬ n ≤ l by omega), Bool.and_false], .int M (by omega)⟩
  · exact ⟨rfl, .dct ht⟩
theorem bad_l19 {M : Lg} {p : Addr} {v : V} {n : Int} (n0 : 0 ≤ n) (n1 : n ≤ 300) (hp : (p, HO.lst [.int 1]) ∈ M) (h : v ∈ [V.non, .bl true, .str "1", .ref p, .int (-1), .int 1000000000000000000000000000000] ++ [V.int n, .int (n + 1), .bl false]) : rgV n v = false ∧ Arg M v := by
  simp only [List.cons_append, List.nil_append, List.mem_cons, List.not_mem_nil, or_false] at h
  rcases h with rfl | rfl | rfl | rfl | rfl | rfl | rfl | rfl | rfl
  · exact ⟨rfl, .non M⟩
  · exact ⟨rfl, .bl M _⟩
  · exact ⟨rfl, .str1 M⟩
  · exact ⟨rfl, .one hp (by decide)⟩
  · exact ⟨by rw [rgV_int, decide_eq_false (show ¬ (0 : Int) ≤ -1 by omega)]; rfl, .int M (by decide)⟩
  · exact ⟨by rw [rgV_int, decide_eq_false (show ¬ (1000000000000000000000000000000 : Int) < n by omega), Bool.and_false], .int M (by decide)⟩
  · exact ⟨by rw [rgV_int, decide_eq_false (show ¬ n < n by omega), Bool.and_false], .int M (by omega)⟩
  · exact ⟨by rw [rgV_int, decide_eq_false (show ¬ n + 1 < n by omega), Bool.and_false], .int M (by omega)⟩
  · exact ⟨rfl, .bl M _⟩
def pickV (c : Bool) (x y : V) : V := if c = true then y else x

def sp_law_holds (K : PySem.W.Frag) : Sp := fun vs H Q E => ∃ (a z : Addr) (zs : List Int) (m : Nat) (o : HO) (L : Lg), vs = [.ref a, .ref z] ∧ Led H ((a, o) :: L) ∧ (Scr K L z zs) ∧ (Gen m o) ∧ (m ≤ 50000) ∧ ∀ (o' : HO), (Gen (m + 1100) o') → Tr ((a, o') :: L) (fun H => Q (.bl true) H)
theorem use_law_holds {L0  L : Lg} {Q : VK} {E : XK} {a z : Addr} {zs : List Int} {m : Nat} {o : HO} (hp0 : Pick (a) (o) L0 L) (hS : Scr K L z zs) (hs : Gen m o) (hm : m ≤ 50000) (q : ∀ (o' : HO), (Gen (m + 1100) o') → Tr ((a, o') :: L) (fun H => Q (.bl true) H)) : Tr L0 fun H => sp_law_holds K [.ref a, .ref z] H Q E :=
  fun H l => ⟨a, z, zs, m, o, L, rfl, l.pick hp0, hS, hs, hm, q⟩

theorem ok_law_holds (D : Df K mg "_law_holds" s_law_holds) (B : Blt mg) (k__law_draw : Ok P w K mg base CX0 1 "_law_draw" ["source", "count"] sp_law_draw) (k__law_outline : Ok P w K mg base CX0 2 "_law_outline" ["source", "script", "most"] (sp_law_outline K)) (k__law_rows : Ok P w K mg base CX0 2 "_law_rows" ["source", "script", "size"] sp_law_rows) (k__law_last : Ok P w K mg base CX0 1 "_law_last" ["made"] sp_law_last) (k__law_not_an_outline : Ok P w K mg base CX0 2 "_law_not_an_outline" ["source", "made"] sp_law_not_an_outline) (k__law_raised : Ok P w K mg base CX0 6 "_law_raised" ["door", "given"] sp_law_raised) (k__law_due : Ok P w K mg base CX0 1 "_law_due" ["door", "wrong", "good"] sp_law_due) : Ok P w K mg base CX0 7 "_law_holds" ["source", "script"] (sp_law_holds K) := by
  obtain ⟨f, fd, hm, F⟩ := D
  refine ⟨f, fd, hm, F.kp, F.binds (fun _ _ _ _ _ _ us hl => match us, hl with | [_, _], _ => rfl), FunOkG F sc_law_holds (fun vs H Q E h => ?_) (fun cdv A outer s H vs Q E hr h => ?_), F.lk⟩
  · obtain ⟨_, _, _, _, _, _, rfl, _⟩ := h; rfl
  obtain ⟨a, z, zs, m, o, L, rfl, l, hS, hs, hm, q⟩ := h
  refine ⟨_, PSs.nox (pss_cons (ps_set (i := 2) sc_law_holds.nd rfl (.inr rfl) (pe_callG k__law_outline (hr.mono (by omega)) pas0 (pa_cons (pv 0) (pa_cons (pv 1) (pa_cons pe_int pa_nil)))))
      (pss_cons (ps_set (i := 3) sc_law_holds.nd rfl (.inl rfl) (pe_ix ix_list (pe_lst (pa_cons (pe_op op_add pe_int (pe_callG k__law_draw (hr.mono (by omega)) pas0 (pa_cons (pv 0) (pa_cons pe_int pa_nil)))) (pa_cons (pe_callG k__law_rows (hr.mono (by omega)) pas0 (pa_cons (pv 0) (pa_cons (pv 1) (pa_cons (pe_callB c_len rfl B.len_ boot_len (pa_cons (pv 2) pa_nil)) pa_nil)))) pa_nil))) (pe_callG k__law_draw (hr.mono (by omega)) pas0 (pa_cons (pv 0) (pa_cons pe_int pa_nil))) (fun _ _ => rfl)))
      (pss_cons (ps_set (i := 4) sc_law_holds.nd rfl (.inr rfl) (pe_lst (pa_cons (pv 2) (pa_cons (pv 3) (pa_cons (pe_callG k__law_draw (hr.mono (by omega)) pas0 (pa_cons (pv 0) (pa_cons (pe_op op_add (pe_callG k__law_last (hr.mono (by omega)) pas0 (pa_cons (pv 2) pa_nil)) pe_int) pa_nil))) (pa_cons (pe_callG k__law_draw (hr.mono (by omega)) pas0 (pa_cons (pv 0) (pa_cons (pe_callB c_len rfl B.len_ boot_len (pa_cons (pv 2) pa_nil)) pa_nil))) pa_nil))))))
      (pss_cons (ps_expr (pe_bm PySem.F.plainAttrs_list PySem.F.slot_list_append PySem.F.type_list_append mt_append (pv 4) (pa_cons (pe_callG k__law_draw (hr.mono (by omega)) pas0 (pa_cons (pv 0) (pa_cons (pe_callB c_len rfl B.len_ boot_len (pa_cons (pv 2) pa_nil)) pa_nil))) pa_nil)))
      (pss_cons (ps_set (i := 5) sc_law_holds.nd rfl (.inr rfl) (pe_lst (pa_cons pe_non (pa_cons pe_bl (pa_cons pe_str (pa_cons (pe_lst (pa_cons pe_int pa_nil)) (pa_cons (pe_un un_neg pe_int) (pa_cons (pe_op op_powW pe_int pe_int) pa_nil))))))))
      (pss_cons (ps_set (i := 6) sc_law_holds.nd rfl (.inr rfl) (pe_lst (pa_cons (pe_callG k__law_not_an_outline (hr.mono (by omega)) pas0 (pa_cons (pv 0) (pa_cons (pv 2) pa_nil))) (pa_cons (pe_ix ix_list (pe_op op_cat (pv 5) (pe_lst (pa_cons pe_int (pa_cons pe_int (pa_cons (pe_tup (pa_cons pe_int pa_nil)) pa_nil))))) (pe_callG k__law_draw (hr.mono (by omega)) pas0 (pa_cons (pv 0) (pa_cons pe_int pa_nil))) (fun _ _ => rfl)) pa_nil))))
      (pss_cons (ps_expr (pe_bm PySem.F.plainAttrs_list PySem.F.slot_list_append PySem.F.type_list_append mt_append (pv 6) (pa_cons (pe_ix ix_list (pe_op op_cat (pv 5) (pe_lst (pa_cons (pe_op op_add (pe_callG k__law_last (hr.mono (by omega)) pas0 (pa_cons (pv 2) pa_nil)) pe_int) (pa_cons (pe_callB c_len rfl B.len_ boot_len (pa_cons (pv 2) pa_nil)) (pa_cons pe_dnewK pa_nil))))) (pe_callG k__law_draw (hr.mono (by omega)) pas0 (pa_cons (pv 0) (pa_cons pe_int pa_nil))) (fun _ _ => rfl)) pa_nil)))
      (pss_cons (ps_set (i := 6) sc_law_holds.nd rfl (.inr rfl) (pe_op op_cat (pv 6) (pe_lc (own := [("spot", 7)]) (g := gName 7) (by rfl) sc_law_holds.nd (pi_range1 rfl B.range_ (pa_cons pe_int pa_nil)) (blkOk_by (own := [("spot", 7)]) (N := ["source", "script", "made", "rows", "good", "odd", "bad", "spot", "wrong", "given", "kept", "door"]) (sc := defScope s_law_holds) (by decide +kernel)) (fun _ _ _ _ _ => (pg_name (i := 7) sc_law_holds.nd rfl (.inl rfl))) (fun _ _ _ _ _ => pts_nil) (fun _ _ _ _ _ => (pe_ix (show IxR _ (rIxL K) from ix_list) (pe_op op_cat (pv 5) (pe_lst (pa_cons (pe_callB (show CallR _ (.builtin "len") (rLen K) from c_len) rfl B.len_ boot_len (pa_cons (pv 2) pa_nil)) (pa_cons (pe_op op_add (pe_callB (show CallR _ (.builtin "len") (rLen K) from c_len) rfl B.len_ boot_len (pa_cons (pv 2) pa_nil)) pe_int) (pa_cons pe_bl pa_nil))))) (pe_callG k__law_draw (hr.mono (by omega)) pas0 (pa_cons (pv 0) (pa_cons pe_int pa_nil))) (fun _ _ => rfl))))))
      (pss_cons (ps_set (i := 8) sc_law_holds.nd rfl (.inr rfl) (pe_lc (own := [("spot", 7)]) (g := gName 7) (by rfl) sc_law_holds.nd (pi_range1 rfl B.range_ (pa_cons pe_int pa_nil)) (blkOk_by (own := [("spot", 7)]) (N := ["source", "script", "made", "rows", "good", "odd", "bad", "spot", "wrong", "given", "kept", "door"]) (sc := defScope s_law_holds) (by decide +kernel)) (fun _ _ _ _ _ => (pg_name (i := 7) sc_law_holds.nd rfl (.inl rfl))) (fun _ _ _ _ _ => pts_nil) (fun _ _ _ _ _ => (pe_cmpR op_eq (pe_callG k__law_draw (hr.mono (by omega)) pas0 (pa_cons (pv 0) (pa_cons pe_int pa_nil))) pe_int (nomark _)))))
      (pss_cons (ps_setLc (i := 9) (own := [("spot", 7)]) (g := gName 7) (by rfl) sc_law_holds.nd rfl rfl (sw_true rfl rfl rfl (by decide +kernel)) (pi_range1 rfl B.range_ (pa_cons pe_int pa_nil)) (blkOk_by (own := [("spot", 7)]) (N := ["source", "script", "made", "rows", "good", "odd", "bad", "spot", "wrong", "given", "kept", "door"]) (sc := defScope s_law_holds) (by decide +kernel)) (fun _ _ _ _ _ => (pg_name (i := 7) sc_law_holds.nd rfl (.inl rfl))) (fun _ _ _ _ _ => pts_nil) (fun _ _ _ _ _ => (pe_ifExp (pt_val (pe_ix (show IxR _ (rIxL K) from ix_list) (pv 8) (pv 7) (fun _ _ => rfl))) (pe_ix (show IxR _ (rIxL K) from ix_list) (pv 6) (pv 7) (fun _ _ => rfl)) (pe_ix (show IxR _ (rIxL K) from ix_list) (pv 4) (pv 7) (fun _ _ => rfl)))))
      (pss_cons (ps_set (i := 10) sc_law_holds.nd rfl (.inl rfl) (pe_callB (call_reprV hr.gd hr.rm.units) rfl B.repr_ boot_repr (pa_cons (pv 9) pa_nil)))
      (pss_cons (ps_for PassesOwn.never rfl (pi_range1 rfl B.range_ (pa_cons pe_int pa_nil)) (pg_name (i := 11) sc_law_holds.nd rfl (.inl rfl))
        (pss_one (ps_if (pt_cmpR (op_neD hr.rm.units) (pe_callG k__law_raised (hr.mono (by omega)) pas0 (pa_cons (pv 11) (pa_cons (pv 9) pa_nil))) (pe_callG k__law_due (hr.mono (by omega)) pas0 (pa_cons (pv 11) (pa_cons (pv 8) (pa_cons (pv 4) pa_nil)))) (nomark _)) (pss_one (ps_ret pe_bl))
        pss_nil)))
      (pss_one (ps_ret (pe_cmpR op_eq (pe_callB (call_reprV hr.gd hr.rm.units) rfl B.repr_ boot_repr (pa_cons (pv 9) pa_nil)) (pv 10) (nomark _)))))))))))))))), ?_⟩
  rw [show L2.start ["source", "script", "made", "rows", "good", "odd", "bad", "spot", "wrong", "given", "kept", "door"] [.ref a, .ref z] = [some (.ref a), some (.ref z), none, none, none, none, none, none, none, none, none, none] from rfl]
  refine Tr.of ?_ l
  repeat walk_at "hz"
  refine use_law_outline (by walk_at "pk") hS hs (by omega) (by omega) (by omega) fun ns p o1 ho hn hs => ?_
  have hl := ho.len
  have lb := ho.lastBound
  repeat walk_at "hz"
  refine use_law_draw (by walk_at "pk") hs (by omega) (by omega) (by omega) fun e1 o_e1 e1l e1h hs => ?_
  repeat walk_at "hz"
  refine use_law_rows (by walk_at "pk") hs (by omega) (by omega) (by omega) fun rw0 o2 r0 r1 hs => ?_
  repeat walk_at "hz"
  refine use_law_draw (by walk_at "pk") hs (by omega) (by omega) (by omega) fun e2 o_e2 e2l e2h hs => ?_
  repeat walk_at "hz"
  obtain ⟨rows, hrows, rb⟩ : ∃ r : Int, atI [V.int (1 + e1), .int rw0] e2 = some (.int r) ∧ 1 ≤ r ∧ r ≤ 400 := by
    obtain rfl | rfl : e2 = 0 ∨ e2 = 1 := by omega
    · exact ⟨_, rfl, by omega, by omega⟩
    · exact ⟨_, rfl, by omega, by omega⟩
  refine t_ixL (by walk_at "pk") hrows ?_
  repeat walk_at "hz"
  refine use_law_last (by walk_at "mb") hl.1 ?_
  repeat walk_at "hz"
  have ls0 : 0 ≤ lsI ns := by have := lastD_bound (-1) ns ho.chain hl.1; unfold lsI; omega
  have ls1 : lsI ns < ns.length := by have := lastD_bound (-1) ns ho.chain hl.1; unfold lsI; omega
  refine use_law_draw (by walk_at "pk") hs (by omega) (by omega) (by omega) fun e3 o_e3 e3l e3h hs => ?_
  repeat walk_at "hz"
  refine use_law_draw (by walk_at "pk") hs (by omega) (by omega) (by omega) fun e4 o_e4 e4l e4h hs => ?_
  repeat walk_at "hz"
  refine use_law_draw (by walk_at "pk") hs (by omega) (by omega) (by omega) fun e5 o_e5 e5l e5h hs => ?_
  repeat walk_at "hz"
  rename_i pr pg pone
  refine t_rI (pow_ok 5 (by decide) (by decide) (by decide) (by decide)) ?_
  rw [show (10 : Int) ^ (30 : Int).toNat = 1000000000000000000000000000000 by decide]
  repeat walk_at "hz"
  repeat walk_at "hz"
  rename_i podd
  refine use_law_not_an_outline (by walk_at "pk") (by walk_at "mb") ho hs (by omega) fun x d N3 o3 hx hsz hout hs => ?_
  have hs3 : Gen (m + 1015) o3 := hs.le (by omega)
  refine t_gen (α := Lg) (fun M => (a, o3) :: M) (fun M => (podd, HO.lst [V.non, .bl true, .str "1", .ref pone, .int (-1), .int 1000000000000000000000000000000]) ∈ M ∧ (pone, HO.lst [V.int 1]) ∈ M ∧ (pg, HO.lst [.ref p, .int rows, .int e3, .int e4, .int e5]) ∈ M ∧ (p, HO.lst (ns.map V.int)) ∈ M ∧ Small M x d ∧ Sub M L) _ ⟨(by walk_at "mb"), (by walk_at "mb"), (by walk_at "mb"), (by walk_at "mb"), ⟨hx, hsz⟩, (by walk_at "sb")⟩ .refl ?_
  clear hx hs
  rintro M ⟨mo, m1, mgd, mp, sx, sub⟩
  replace q : ∀ o', Gen (m + 1100) o' → Tr ((a, o') :: M) fun H => Q (.bl true) H := fun o' h => (q o' h).sub (sub.take .head)
  have hs := hs3
  clear hs3
  obtain ⟨R1, po⟩ := Pick.of_mem mo
  obtain ⟨R2, pm⟩ := Pick.of_mem mp
  obtain ⟨R3, pgg⟩ := Pick.of_mem mgd
  repeat walk_at "hz"
  refine use_law_draw (by walk_at "pk") hs (by omega) (by omega) (by omega) fun e6 o_e6 e6l e6h hs => ?_
  repeat walk_at "hz"
  rename_i pt p7 p8
  obtain ⟨bh, hbh, bhm⟩ := at_memV (xs := [V.non, .bl true, .str "1", .ref pone, .int (-1), .int 1000000000000000000000000000000] ++ [V.int 0, .int 401, .ref pt]) e6l (by simpa using e6h)
  refine t_ixL (by walk_at "pk") hbh ?_
  repeat walk_at "hz"
  refine use_law_last (by walk_at "mb") hl.1 ?_
  repeat walk_at "hz"
  refine use_law_draw (by walk_at "pk") hs (by omega) (by omega) (by omega) fun e7 o_e7 e7l e7h hs => ?_
  repeat walk_at "hz"
  rename_i pb pd p10 p11
  obtain ⟨bs, hbs, bsm⟩ := at_memV (xs := [V.non, .bl true, .str "1", .ref pone, .int (-1), .int 1000000000000000000000000000000] ++ [V.int (lsI ns + 1), .int ns.length, .ref pd]) e7l (by simpa using e7h)
  refine t_ixL (by walk_at "pk") hbs ?_
  repeat walk_at "hz"
  have hs7 : Gen (m + 1020) o_e7 := hs.le (by omega)
  refine Tr.pick (a := a) (o := o_e7) (by walk_at "pk") ?_
  refine t_gen (α := Lg) (fun M2 => (a, o_e7) :: M2) (fun M2 => (pb, HO.lst [x, bh, bs]) ∈ M2 ∧ (podd, HO.lst [V.non, .bl true, .str "1", .ref pone, .int (-1), .int 1000000000000000000000000000000]) ∈ M2 ∧ (pone, HO.lst [V.int 1]) ∈ M2 ∧ (pg, HO.lst [.ref p, .int rows, .int e3, .int e4, .int e5]) ∈ M2 ∧ (p, HO.lst (ns.map V.int)) ∈ M2 ∧ Small M2 x d ∧ (htV bh = false ∧ Arg M2 bh) ∧ (scV (lsI ns) bs = false ∧ Arg M2 bs) ∧ Sub M2 M) _ ⟨(by walk_at "mb"), (by walk_at "mb"), (by walk_at "mb"), (by walk_at "mb"), (by walk_at "mb"), sx.mono fun q h => by walk_at "mb", bad_h19 (by walk_at "mb") (by walk_at "mb") bhm, bad_s19 (n := ns.length) ls0 ls1 (by omega) (by walk_at "mb") (by walk_at "mb") bsm, (by walk_at "sb")⟩ .refl ?_
  clear hs sx bhm bsm hbs hbh
  rintro M2 ⟨mb2, mo, m1, mgd, mp, sx, ⟨hbh, ah⟩, ⟨hbs, as⟩, sub2⟩
  replace q : ∀ o', Gen (m + 1100) o' → Tr ((a, o') :: M2) fun H => Q (.bl true) H := fun o' h => (q o' h).sub (sub2.take .head)
  obtain ⟨Rb, pkb⟩ := Pick.of_mem mb2
  obtain ⟨Ro, pko⟩ := Pick.of_mem mo
  obtain ⟨Rp, pkp⟩ := Pick.of_mem mp
  obtain ⟨Rg, pkg⟩ := Pick.of_mem mgd
  refine t_lcK (wk_range) (by rfl) (fun i (y : List V × HO) => (a, y.2) :: M2) (fun i y => y.1) (fun i y => y.1.length = i ∧ (∀ v ∈ y.1, v ∈ [V.non, .bl true, .str "1", .ref pone, .int (-1), .int 1000000000000000000000000000000] ++ [V.int ns.length, .int (ns.length + 1), .bl false]) ∧ Gen (m + 1020 + i) y.2) ⟨([], o_e7), ⟨rfl, fun v h => absurd h (by simp), hs7⟩, rfl, (by walk_at "sb")⟩ (fun D i y _ => trivial) ?_ ?_
  · rintro D i ⟨ys, o5⟩ v L' hi ⟨yl, ym, hs⟩ ⟨rfl, rfl⟩
    have hi2 : i < 2 := by simpa using hi
    dsimp only at yl ym hs ⊢
    rw [List.nil_append]
    repeat walk_at "hz"
    refine use_law_draw (by walk_at "pk") hs (by omega) (by omega) (by omega) fun e8 o_e8 e8l e8h hs => ?_
    repeat walk_at "hz"
    obtain ⟨w9, hw9, wm⟩ := at_memV (xs := [V.non, .bl true, .str "1", .ref pone, .int (-1), .int 1000000000000000000000000000000] ++ [V.int ns.length, .int (ns.length + 1), .bl false]) e8l (by simpa using e8h)
    refine t_ixL (by walk_at "pk") hw9 ?_
    repeat walk_at "hz"
    exact t_lcAdd (ys ++ [w9], o_e8) ⟨by simp [yl], fun v hv => by
      rcases List.mem_append.mp hv with hv | hv
      · exact ym v hv
      · rw [List.mem_singleton.mp hv]; exact wm, hs⟩ (by walk_at "pk") (by rw [sizeLine_eq]; omega) rfl (by walk_at "sb")
  rintro D ⟨ys, o5⟩ ⟨yl, ym, hs⟩
  dsimp only at yl ym hs ⊢
  obtain ⟨b3, b4, rfl⟩ : ∃ b3 b4, ys = [b3, b4] := by
    match ys, yl with
    | [b3, b4], _ => exact ⟨b3, b4, rfl⟩
  have f3 := bad_l19 (n := ns.length) (by omega) (by omega) m1 (ym b3 (by simp))
  have f4 := bad_l19 (n := ns.length) (by omega) (by omega) m1 (ym b4 (by simp))
  repeat walk_at "hz"
  rename_i pbb
  refine Tr.lcast (show _ = [x, bh, bs, b3, b4] from rfl) ?_
  refine Tr.pick (a := a) (o := o5) (by walk_at "pk") ?_
  refine t_gen (α := Lg) (fun M3 => (a, o5) :: M3) (fun M3 => (pbb, HO.lst [x, bh, bs, b3, b4]) ∈ M3 ∧ (pg, HO.lst [.ref p, .int rows, .int e3, .int e4, .int e5]) ∈ M3 ∧ (p, HO.lst (ns.map V.int)) ∈ M3 ∧ Small M3 x d ∧ Arg M3 bh ∧ Arg M3 bs ∧ Arg M3 b3 ∧ Arg M3 b4 ∧ Sub M3 M2) _ ⟨(by walk_at "mb"), (by walk_at "mb"), (by walk_at "mb"), sx.mono fun q h => by walk_at "mb", ah.mono fun q h => by walk_at "mb", as.mono fun q h => by walk_at "mb", f3.2.mono fun q h => by walk_at "mb", f4.2.mono fun q h => by walk_at "mb", (by walk_at "sb")⟩ .refl ?_
  have hb3 := f3.1
  have hb4 := f4.1
  clear f3 f4 sx ah as mb2 mo m1 mgd mp pkb pko pkp pkg ym
  rintro M3 ⟨mb, mgd, mp, sx, ah, as, a3, a4, sub3⟩
  replace q : ∀ o', Gen (m + 1100) o' → Tr ((a, o') :: M3) fun H => Q (.bl true) H := fun o' h => (q o' h).sub (sub3.take .head)
  obtain ⟨Rb, pkb⟩ := Pick.of_mem mb
  obtain ⟨Rp, pkp⟩ := Pick.of_mem mp
  obtain ⟨Rg, pkg⟩ := Pick.of_mem mgd
  refine t_lcK (wk_range) (by rfl) (fun i (y : List Bool × HO) => (a, y.2) :: M3) (fun i y => y.1.map V.bl) (fun i y => y.1.length = i ∧ Gen (m + 1025 + i) y.2) ⟨([], o5), ⟨rfl, hs.le (by simp)⟩, rfl, (by walk_at "sb")⟩ (fun D i y _ => trivial) ?_ ?_
  · rintro D i ⟨bl, o6⟩ v L' hi ⟨bll, hs⟩ ⟨rfl, rfl⟩
    have hi2 : i < 5 := by simpa using hi
    dsimp only at bll hs ⊢
    rw [List.nil_append]
    repeat walk_at "hz"
    refine use_law_draw (by walk_at "pk") hs (by omega) (by omega) (by omega) fun e9 o_e9 e9l e9h hs => ?_
    repeat walk_at "hz"
    exact t_lcAdd (bl ++ [decide (e9 = 0)], o_e9) ⟨by simp [bll], hs⟩ (by walk_at "pk") (by rw [sizeLine_eq, List.length_map]; omega) (by rw [List.map_append]; rfl) (by walk_at "sb")
  rintro Dw ⟨bl, o6⟩ ⟨bll, hs⟩
  dsimp only at bll hs ⊢
  obtain ⟨c0, c1, c2, c3, c4, rfl⟩ : ∃ c0 c1 c2 c3 c4, bl = [c0, c1, c2, c3, c4] := by
    match bl, bll with
    | [c0, c1, c2, c3, c4], _ => exact ⟨c0, c1, c2, c3, c4, rfl⟩
  repeat walk_at "hz"
  refine Tr.lcast (show _ = [V.bl c0, .bl c1, .bl c2, .bl c3, .bl c4] from rfl) ?_
  refine t_lcMap wk_range (by rfl) [pickV c0 (.ref p) x, pickV c1 (.int rows) bh, pickV c2 (.int e3) bs, pickV c3 (.int e4) b3, pickV c4 (.int e5) b4] (by simp) (fun x => trivial) ?_ fun D2 => ?_
  · rintro D2 i v L' hi ⟨rfl, rfl⟩
    have hi2 : i < 5 := by simpa using hi
    rw [List.nil_append]
    obtain rfl | rfl | rfl | rfl | rfl : i = 0 ∨ i = 1 ∨ i = 2 ∨ i = 3 ∨ i = 4 := by omega
    all_goals
      repeat walk_at "hz"
      refine t_ite (fun h => ?_) fun h => ?_
      · subst h
        repeat walk_at "hz"
        exact t_lcMp (by walk_at "pk") (by rfl) (by rw [sizeLine_eq]; simp) (by walk_at "sb")
      · subst h
        repeat walk_at "hz"
        exact t_lcMp (by walk_at "pk") (by rfl) (by rw [sizeLine_eq]; simp) (by walk_at "sb")
  have sd : Small M3 (.ref p) (.list (ns.map PyData.int)) := ⟨.ints mp, (Sz.ints 30 200 (by decide) (by decide) (sz_depths ho) hl.2).le (by decide) (by decide)⟩
  have od : outD (.list (ns.map PyData.int)) = true := by rw [outD_ints]; exact ho
  obtain ⟨d0, s0, hb0, hv0⟩ : ∃ d0, Small M3 (pickV c0 (.ref p) x) d0 ∧ outD d0 = !c0 ∧ ((!c0) = true → pickV c0 (.ref p) x = .ref p) := by
    cases c0
    · exact ⟨_, sd, od, fun _ => rfl⟩
    · exact ⟨_, sx, hout, fun h => nomatch h⟩
  have w1 : htV (pickV c1 (.int rows) bh) = !c1 ∧ Arg M3 (pickV c1 (.int rows) bh) ∧ (c1 = false → pickV c1 (.int rows) bh = .int rows) := by
    cases c1
    · exact ⟨by show htV (.int rows) = true; rw [htV_int, decide_eq_true rb.1, decide_eq_true rb.2]; rfl, .int M3 (by omega), fun _ => rfl⟩
    · exact ⟨hbh, ah, fun h => nomatch h⟩
  have w2 : scV (lsI ns) (pickV c2 (.int e3) bs) = !c2 ∧ Arg M3 (pickV c2 (.int e3) bs) := by
    cases c2
    · exact ⟨by show scV (lsI ns) (.int e3) = true; rw [scV_int, decide_eq_true e3l, decide_eq_true (by omega)]; rfl, .int M3 (by omega)⟩
    · exact ⟨hbs, as⟩
  have w3 : rgV ns.length (pickV c3 (.int e4) b3) = !c3 ∧ Arg M3 (pickV c3 (.int e4) b3) ∧ (c3 = false → pickV c3 (.int e4) b3 = .int e4) := by
    cases c3
    · exact ⟨by show rgV ns.length (.int e4) = true; rw [rgV_int, decide_eq_true e4l, decide_eq_true e4h]; rfl, .int M3 (by omega), fun _ => rfl⟩
    · exact ⟨hb3, a3, fun h => nomatch h⟩
  have w4 : rgV ns.length (pickV c4 (.int e5) b4) = !c4 ∧ Arg M3 (pickV c4 (.int e5) b4) := by
    cases c4
    · exact ⟨by show rgV ns.length (.int e5) = true; rw [rgV_int, decide_eq_true e5l, decide_eq_true e5h]; rfl, .int M3 (by omega)⟩
    · exact ⟨hb4, a4⟩
  generalize pickV c0 (.ref p) x = u0 at s0 hv0 ⊢
  generalize pickV c1 (.int rows) bh = u1 at w1 ⊢
  generalize pickV c2 (.int e3) bs = u2 at w2 ⊢
  generalize pickV c3 (.int e4) b3 = u3 at w3 ⊢
  generalize pickV c4 (.int e5) b4 = u4 at w4 ⊢
  obtain ⟨w1, ⟨d1, s1⟩, hu1⟩ := w1
  obtain ⟨w2, d2, s2⟩ := w2
  obtain ⟨w3, ⟨d3, s3⟩, hu3⟩ := w3
  obtain ⟨w4, d4, s4⟩ := w4
  repeat walk_at "hz"
  have kd : ∀ {M4 : Lg}, (D2, HO.lst [u0, u1, u2, u3, u4]) ∈ M4 → (∀ q ∈ M3, q ∈ M4) → Dv M4 (.ref D2) (.list [d0, d1, d2, d3, d4]) := fun m s =>
    .lst m (.cons (s0.1.mono s) (.cons (s1.1.mono s) (.cons (s2.1.mono s) (.cons (s3.1.mono s) (.cons (s4.1.mono s) .nil)))))
  have ks : Sz 11000000 6 (.list [d0, d1, d2, d3, d4]) := (Sz.list (n := 2000000) (k := 5) 5 (fun d hd => by
    simp only [List.mem_cons, List.not_mem_nil, or_false] at hd
    rcases hd with rfl | rfl | rfl | rfl | rfl
    · exact s0.2
    · exact s1.2
    · exact s2.2
    · exact s3.2
    · exact s4.2) (by simp)).le (by decide) (by decide)
  refine t_reprV (kd (by walk_at "mb") fun q h => by walk_at "mb") _ _ ks (by decide) (by decide) ?_
  obtain ⟨kept, hkept⟩ : ∃ k, k = PyData.shown (.list [d0, d1, d2, d3, d4]) := ⟨_, rfl⟩
  rw [← hkept]
  repeat walk_at "hz"
  refine t_forK wk_range (fun t ((j7, j11) : Option V × Option V) => [some (.ref a), some (.ref z), some (.ref p), some (.int rows), some (.ref pg), some (.ref podd), some (.ref pbb), j7, some (.ref Dw), some (.ref D2), some (.str kept), j11]) (fun t ((j7, j11) : Option V × Option V) => (D2, .lst [u0, u1, u2, u3, u4]) :: (Dw, .lst [.bl c0, .bl c1, .bl c2, .bl c3, .bl c4]) :: (a, o6) :: M3) (fun t ((j7, j11) : Option V × Option V) => True) ⟨(_, _), trivial, rfl, (by walk_at "sb")⟩ (fun _ _ _ => trivial) ?_ ?_
  · rintro t ⟨j7, j11⟩ v L' ht - ⟨rfl, rfl⟩
    try dsimp only at  ⊢
    simp only [List.nil_append, List.cons_append]
    have ht2 : t < 6 := by simpa using ht
    repeat walk_at "hz"
    obtain ⟨du, hdu⟩ : ∃ du, du = dueR (0 + (t : Int)) (!c0) (!c1) (!c2) (!c3) (!c4) (decide (rows ≤ atD ns e4)) e4 := ⟨_, rfl⟩
    refine use_law_raised (b0 := !c0) (b1 := !c1) (b2 := !c2) (b3 := !c3) (b4 := !c4) (dp := dpR ns u1 u3) (ln := lnR u3) (du := du) (by omega) (by omega) (by walk_at "mb") (s0.1.mono fun q h => by walk_at "mb") (s1.1.mono fun q h => by walk_at "mb").ty (s2.1.mono fun q h => by walk_at "mb").ty (s3.1.mono fun q h => by walk_at "mb").ty (s4.1.mono fun q h => by walk_at "mb").ty hb0 w1
      (fun e => ⟨p, ns, hv0 e, by walk_at "mb", ho, w2, w3, w4, fun h i g1 g2 => by rw [g1, g2]; rfl⟩) (fun i g => by rw [g]; rfl) (by
        rw [hdu]
        refine dueR_same (fun g1 g3 => ?_) (by omega) (by omega)
        have z1 := hu1 (by simpa using g1)
        have z3 := hu3 (by simpa using g3)
        rw [z1, z3]
        exact ⟨(dpI_eq ho rb.1 e4l e4h).symm, rfl⟩) fun v N hv => ?_
    repeat walk_at "hz"
    refine use_law_due (du := du) (by omega) (by omega) (List.mem_append_right _ (by walk_at "mb")) (List.mem_append_right _ (by walk_at "mb")) (List.mem_append_right _ (by walk_at "mb")) ho e4l e4h hdu fun v2 N2 hv2 => ?_
    repeat walk_at "hz"
    refine t_neD (hv.dt.mono fun q h => List.mem_append_right _ h).dpl hv2.dt.dpl (resD_sh _ _) (resD_sh _ _) ?_
    rw [resD_eq]
    repeat walk_at "hz"
    refine t_pst (_, _) trivial rfl (by walk_at "sb")
  · rintro ⟨j7, j11⟩ -
    try dsimp only at  ⊢
    repeat walk_at "hz"
    refine t_reprV (kd (by walk_at "mb") fun q h => by walk_at "mb") _ _ ks (by decide) (by decide) ?_
    rw [← hkept]
    repeat walk_at "hz"
    rw [decide_eq_true rfl]
    exact (q o6 (hs.le (by first | omega | (simp; done) | (simp; omega)))).sub (by walk_at "sb")

def sp_law (K : PySem.W.Frag) : Sp := fun vs H Q E => ∃ (a : Addr) (ns : List Int) (L : Lg), vs = [.ref a] ∧ Led H (L) ∧ (Scr K L a ns) ∧ (ns.length ≤ 63) ∧ Tr (L) (fun H => Q (.bl true) H)
theorem use_law {L : Lg} {Q : VK} {E : XK} {a : Addr} {ns : List Int} (hS : Scr K L a ns) (hl : ns.length ≤ 63) (q : Tr (L) (fun H => Q (.bl true) H)) : Tr L fun H => sp_law K [.ref a] H Q E :=
  fun H l => ⟨a, ns, L, rfl, l, hS, hl, q⟩

theorem ok_law (D : Df K mg "law" s_law) (B : Blt mg) (k__law_source : Ok P w K mg base CX0 1 "_law_source" ["cell", "index"] sp_law_source) (k__law_cells : Ok P w K mg base CX0 1 "_law_cells" ["script", "count"] (sp_law_cells K)) (k__law_holds : Ok P w K mg base CX0 7 "_law_holds" ["source", "script"] (sp_law_holds K)) : Ok P w K mg base CX0 8 "law" ["script"] (sp_law K) := by
  obtain ⟨f, fd, hm, F⟩ := D
  refine ⟨f, fd, hm, F.kp, F.binds (fun _ _ _ _ _ _ us hl => match us, hl with | [_], _ => rfl), FunOkG F sc_law (fun vs H Q E h => ?_) (fun cdv A outer s H vs Q E hr h => ?_), F.lk⟩
  · obtain ⟨_, _, _, rfl, _⟩ := h; rfl
  obtain ⟨a, ns, L, rfl, l, hS, hl, q⟩ := h
  refine ⟨_, PSs.nox (pss_cons (ps_for PassesOwn.never rfl (pi_enum (by rfl) B.enumerate_ (pa_cons (pe_callG k__law_cells (hr.mono (by omega)) pas0 (pa_cons (pv 0) (pa_cons pe_int pa_nil))) pa_nil)) (pg_tup rfl (pgs_cons (pg_name (i := 1) sc_law.nd rfl (.inl rfl)) (pgs_cons (pg_name (i := 2) sc_law.nd rfl (.inl rfl)) pgs_nil)))
        (pss_cons (ps_set (i := 3) sc_law.nd rfl (.inl rfl) (pe_callG k__law_source (hr.mono (by omega)) pas0 (pa_cons (pv 2) (pa_cons (pv 1) pa_nil))))
      (pss_one (ps_for PassesOwn.never rfl (pi_range1 rfl B.range_ (pa_cons pe_int pa_nil)) (pg_name (i := 4) sc_law.nd rfl (.inl rfl))
        (pss_one (ps_if (pt_not (pt_val (pe_callG k__law_holds (hr.mono (by omega)) pas0 (pa_cons (pv 3) (pa_cons (pv 0) pa_nil))))) (pss_one (ps_ret pe_bl))
        pss_nil))))))
      (pss_one (ps_ret pe_bl))), ?_⟩
  rw [show L2.start ["script", "k", "cell", "source", "turn"] [.ref a] = [some (.ref a), none, none, none, none] from rfl]
  refine Tr.of ?_ l
  repeat walk_at "hz"
  refine use_law_cells hS hl fun p cs hc => ?_
  repeat walk_at "hz"
  refine t_forK (wk_enum (xs := cs.map V.int)) (fun t ((j1, j2, j3, j4) : Option V × Option V × Option V × Option V) => [some (.ref a), j1, j2, j3, j4]) (fun t ((j1, j2, j3, j4) : Option V × Option V × Option V × Option V) => (p, .lst (cs.map V.int)) :: L) (fun t ((j1, j2, j3, j4) : Option V × Option V × Option V × Option V) => True) ⟨(_, _, _, _), trivial, rfl, (by walk_at "sb")⟩ (fun _ _ _ => ⟨_, (by walk_at "pk")⟩) ?_ ?_
  · rintro t ⟨j1, j2, j3, j4⟩ v L' ht - ⟨T, x, rfl, hx, rfl⟩
    try dsimp only at  ⊢
    simp only [List.nil_append, List.cons_append]
    obtain ⟨cell, hc1, rfl⟩ := map_get hx
    rw [List.length_map] at ht
    repeat walk_at "hz"
    refine use_law_source (by omega) (by omega) fun p2 o hs => ?_
    repeat walk_at "hz"
    refine t_forK wk_range (fun u ((o, z4) : HO × Option V) => [some (.ref a), some (.int t), some (.int cell), some (.ref p2), z4]) (fun u ((o, z4) : HO × Option V) => (p2, o) :: (p, .lst (cs.map V.int)) :: L) (fun u ((o, z4) : HO × Option V) => Gen (1200 * u) o) ⟨(o, _), hs.le (by omega), rfl, (by walk_at "sb")⟩ (fun _ _ _ => trivial) ?_ ?_
    · clear hs
      rintro u ⟨o, z4⟩ v L' hu hs ⟨rfl, rfl⟩
      try dsimp only at hs ⊢
      simp only [List.nil_append, List.cons_append]
      have hu2 : u < 6 := by simpa using hu
      repeat walk_at "hz"
      refine use_law_holds (by walk_at "pk") hS.cons hs (by omega) fun o hs => ?_
      repeat walk_at "hz"
      refine t_pst (o, _) (hs.le (by omega)) rfl (by walk_at "sb")
    · rintro ⟨o, z4⟩ hs
      try dsimp only at hs ⊢
      repeat walk_at "hz"
      refine t_pst (_, _, _, _) trivial rfl (by walk_at "sb")
  · rintro ⟨j1, j2, j3, j4⟩ -
    try dsimp only at  ⊢
    repeat walk_at "hz"
    exact q.sub (by walk_at "sb")
theorem law_ok (B : Blt mg) (g_MAX_LINES : GV mg "MAX_LINES" (.int 200)) (g_MOST_ROWS : GV mg "MOST_ROWS" (.int 400)) (d__law_source : Df K mg "_law_source" s_law_source) (d__law_cells : Df K mg "_law_cells" s_law_cells) (d__law_draw : Df K mg "_law_draw" s_law_draw) (d__law_outline : Df K mg "_law_outline" s_law_outline) (d__law_rows : Df K mg "_law_rows" s_law_rows) (d__law_last : Df K mg "_law_last" s_law_last) (d__law_not_an_outline : Df K mg "_law_not_an_outline" s_law_not_an_outline) (d_is_integer : Df K mg "is_integer" s_is_integer) (d_is_outline : Df K mg "is_outline" s_is_outline) (d_check_outline : Df K mg "check_outline" s_check_outline) (d_last_scroll : Df K mg "last_scroll" s_last_scroll) (d_check_scroll : Df K mg "check_scroll" s_check_scroll) (d_top_of : Df K mg "top_of" s_top_of) (d_top_line : Df K mg "top_line" s_top_line) (d_headings_of : Df K mg "headings_of" s_headings_of) (d_view_of : Df K mg "view_of" s_view_of) (d_check_height : Df K mg "check_height" s_check_height) (d_check_arguments : Df K mg "check_arguments" s_check_arguments) (d_view : Df K mg "view" s_view) (d_shown_of : Df K mg "shown_of" s_shown_of) (d_shown_lines : Df K mg "shown_lines" s_shown_lines) (d_check_line : Df K mg "check_line" s_check_line) (d_interval_for : Df K mg "interval_for" s_interval_for) (d_scrolls_for : Df K mg "scrolls_for" s_scrolls_for) (d_nearest_for : Df K mg "nearest_for" s_nearest_for) (d_scroll_to_show : Df K mg "scroll_to_show" s_scroll_to_show) (d_scrolls_for_both : Df K mg "scrolls_for_both" s_scrolls_for_both) (d__law_error_name : Df K mg "_law_error_name" s_law_error_name) (d__law_raised : Df K mg "_law_raised" s_law_raised) (d__law_due : Df K mg "_law_due" s_law_due) (d__law_holds : Df K mg "_law_holds" s_law_holds) (d_law : Df K mg "law" s_law) (xc : ∃ C_EmptyHistoryError C_EmptyOutlineError C_EndError C_HiddenLineError C_InvalidDepthError C_InvalidDocumentError C_InvalidFoldsError C_InvalidHeightError C_InvalidLineError C_InvalidNumberError C_InvalidObservationsError C_InvalidOutlineError C_InvalidReadingError C_InvalidScrollError C_InvalidTextError C_InvalidTitleError C_StickyHeadsError C_TooDeepError C_TooManyLinesError : Addr, (ErrI P w K mg base "TooDeepError" "line" C_TooDeepError) ∧ (Sbj K C_TooDeepError) ∧ (PySem.W.findIn K (.ref C_TooDeepError) "line" = some none) ∧ (GV mg "InvalidFoldsError" (.ref C_InvalidFoldsError)) ∧ (GV mg "InvalidNumberError" (.ref C_InvalidNumberError)) ∧ (GV mg "InvalidObservationsError" (.ref C_InvalidObservationsError)) ∧ (GV mg "InvalidReadingError" (.ref C_InvalidReadingError)) ∧ (GV mg "InvalidTextError" (.ref C_InvalidTextError)) ∧ (GV mg "InvalidOutlineError" (.ref C_InvalidOutlineError)) ∧ (GV mg "InvalidLineError" (.ref C_InvalidLineError)) ∧ (GV mg "EmptyHistoryError" (.ref C_EmptyHistoryError)) ∧ (mg "ValueError" = none) ∧ (GV mg "InvalidHeightError" (.ref C_InvalidHeightError)) ∧ (GV mg "InvalidScrollError" (.ref C_InvalidScrollError)) ∧ (GV mg "InvalidDocumentError" (.ref C_InvalidDocumentError)) ∧ (GV mg "EndError" (.ref C_EndError)) ∧ (GV mg "InvalidTitleError" (.ref C_InvalidTitleError)) ∧ (GV mg "InvalidDepthError" (.ref C_InvalidDepthError)) ∧ (GV mg "HiddenLineError" (.ref C_HiddenLineError)) ∧ (GV mg "TooDeepError" (.ref C_TooDeepError)) ∧ (GV mg "TooManyLinesError" (.ref C_TooManyLinesError)) ∧ (GV mg "EmptyOutlineError" (.ref C_EmptyOutlineError)) ∧ (Sbj K C_InvalidOutlineError) ∧ (PySem.W.kitOne K (.ref C_InvalidOutlineError) (.ref C_InvalidFoldsError) = some false) ∧ (PySem.W.kitOne K (.ref C_InvalidOutlineError) (.ref C_InvalidNumberError) = some false) ∧ (PySem.W.kitOne K (.ref C_InvalidOutlineError) (.ref C_InvalidObservationsError) = some false) ∧ (PySem.W.kitOne K (.ref C_InvalidOutlineError) (.ref C_InvalidReadingError) = some false) ∧ (PySem.W.kitOne K (.ref C_InvalidOutlineError) (.ref C_InvalidTextError) = some false) ∧ (PySem.W.kitOne K (.ref C_InvalidOutlineError) (.ref C_InvalidOutlineError) = some true) ∧ (PySem.W.kitOne K (.ref C_InvalidOutlineError) (.ref C_InvalidLineError) = some false) ∧ (PySem.W.kitOne K (.ref C_InvalidOutlineError) (.ref C_EmptyHistoryError) = some false) ∧ (PySem.W.kitOne K (.ref C_InvalidOutlineError) (.type "ValueError") = some true) ∧ (PySem.W.kitOne K (.ref C_InvalidOutlineError) (.ref C_InvalidHeightError) = some false) ∧ (PySem.W.kitOne K (.ref C_InvalidOutlineError) (.ref C_InvalidScrollError) = some false) ∧ (PySem.W.kitOne K (.ref C_InvalidOutlineError) (.ref C_InvalidDocumentError) = some false) ∧ (PySem.W.kitOne K (.ref C_InvalidOutlineError) (.ref C_EndError) = some false) ∧ (PySem.W.kitOne K (.ref C_InvalidOutlineError) (.ref C_InvalidTitleError) = some false) ∧ (PySem.W.kitOne K (.ref C_InvalidOutlineError) (.ref C_InvalidDepthError) = some false) ∧ (PySem.W.kitOne K (.ref C_InvalidOutlineError) (.ref C_HiddenLineError) = some false) ∧ (PySem.W.kitOne K (.ref C_InvalidOutlineError) (.ref C_TooDeepError) = some false) ∧ (PySem.W.kitOne K (.ref C_InvalidOutlineError) (.ref C_TooManyLinesError) = some false) ∧ (PySem.W.kitOne K (.ref C_InvalidOutlineError) (.ref C_EmptyOutlineError) = some false) ∧ (Sbj K C_InvalidLineError) ∧ (PySem.W.kitOne K (.ref C_InvalidLineError) (.ref C_InvalidFoldsError) = some false) ∧ (PySem.W.kitOne K (.ref C_InvalidLineError) (.ref C_InvalidNumberError) = some false) ∧ (PySem.W.kitOne K (.ref C_InvalidLineError) (.ref C_InvalidObservationsError) = some false) ∧ (PySem.W.kitOne K (.ref C_InvalidLineError) (.ref C_InvalidReadingError) = some false) ∧ (PySem.W.kitOne K (.ref C_InvalidLineError) (.ref C_InvalidTextError) = some false) ∧ (PySem.W.kitOne K (.ref C_InvalidLineError) (.ref C_InvalidOutlineError) = some false) ∧ (PySem.W.kitOne K (.ref C_InvalidLineError) (.ref C_InvalidLineError) = some true) ∧ (PySem.W.kitOne K (.ref C_InvalidLineError) (.ref C_EmptyHistoryError) = some false) ∧ (PySem.W.kitOne K (.ref C_InvalidLineError) (.type "ValueError") = some true) ∧ (PySem.W.kitOne K (.ref C_InvalidLineError) (.ref C_InvalidHeightError) = some false) ∧ (PySem.W.kitOne K (.ref C_InvalidLineError) (.ref C_InvalidScrollError) = some false) ∧ (PySem.W.kitOne K (.ref C_InvalidLineError) (.ref C_InvalidDocumentError) = some false) ∧ (PySem.W.kitOne K (.ref C_InvalidLineError) (.ref C_EndError) = some false) ∧ (PySem.W.kitOne K (.ref C_InvalidLineError) (.ref C_InvalidTitleError) = some false) ∧ (PySem.W.kitOne K (.ref C_InvalidLineError) (.ref C_InvalidDepthError) = some false) ∧ (PySem.W.kitOne K (.ref C_InvalidLineError) (.ref C_HiddenLineError) = some false) ∧ (PySem.W.kitOne K (.ref C_InvalidLineError) (.ref C_TooDeepError) = some false) ∧ (PySem.W.kitOne K (.ref C_InvalidLineError) (.ref C_TooManyLinesError) = some false) ∧ (PySem.W.kitOne K (.ref C_InvalidLineError) (.ref C_EmptyOutlineError) = some false) ∧ (Sbj K C_InvalidHeightError) ∧ (PySem.W.kitOne K (.ref C_InvalidHeightError) (.ref C_InvalidFoldsError) = some false) ∧ (PySem.W.kitOne K (.ref C_InvalidHeightError) (.ref C_InvalidNumberError) = some false) ∧ (PySem.W.kitOne K (.ref C_InvalidHeightError) (.ref C_InvalidObservationsError) = some false) ∧ (PySem.W.kitOne K (.ref C_InvalidHeightError) (.ref C_InvalidReadingError) = some false) ∧ (PySem.W.kitOne K (.ref C_InvalidHeightError) (.ref C_InvalidTextError) = some false) ∧ (PySem.W.kitOne K (.ref C_InvalidHeightError) (.ref C_InvalidOutlineError) = some false) ∧ (PySem.W.kitOne K (.ref C_InvalidHeightError) (.ref C_InvalidLineError) = some false) ∧ (PySem.W.kitOne K (.ref C_InvalidHeightError) (.ref C_EmptyHistoryError) = some false) ∧ (PySem.W.kitOne K (.ref C_InvalidHeightError) (.type "ValueError") = some true) ∧ (PySem.W.kitOne K (.ref C_InvalidHeightError) (.ref C_InvalidHeightError) = some true) ∧ (PySem.W.kitOne K (.ref C_InvalidHeightError) (.ref C_InvalidScrollError) = some false) ∧ (PySem.W.kitOne K (.ref C_InvalidHeightError) (.ref C_InvalidDocumentError) = some false) ∧ (PySem.W.kitOne K (.ref C_InvalidHeightError) (.ref C_EndError) = some false) ∧ (PySem.W.kitOne K (.ref C_InvalidHeightError) (.ref C_InvalidTitleError) = some false) ∧ (PySem.W.kitOne K (.ref C_InvalidHeightError) (.ref C_InvalidDepthError) = some false) ∧ (PySem.W.kitOne K (.ref C_InvalidHeightError) (.ref C_HiddenLineError) = some false) ∧ (PySem.W.kitOne K (.ref C_InvalidHeightError) (.ref C_TooDeepError) = some false) ∧ (PySem.W.kitOne K (.ref C_InvalidHeightError) (.ref C_TooManyLinesError) = some false) ∧ (PySem.W.kitOne K (.ref C_InvalidHeightError) (.ref C_EmptyOutlineError) = some false) ∧ (Sbj K C_InvalidScrollError) ∧ (PySem.W.kitOne K (.ref C_InvalidScrollError) (.ref C_InvalidFoldsError) = some false) ∧ (PySem.W.kitOne K (.ref C_InvalidScrollError) (.ref C_InvalidNumberError) = some false) ∧ (PySem.W.kitOne K (.ref C_InvalidScrollError) (.ref C_InvalidObservationsError) = some false) ∧ (PySem.W.kitOne K (.ref C_InvalidScrollError) (.ref C_InvalidReadingError) = some false) ∧ (PySem.W.kitOne K (.ref C_InvalidScrollError) (.ref C_InvalidTextError) = some false) ∧ (PySem.W.kitOne K (.ref C_InvalidScrollError) (.ref C_InvalidOutlineError) = some false) ∧ (PySem.W.kitOne K (.ref C_InvalidScrollError) (.ref C_InvalidLineError) = some false) ∧ (PySem.W.kitOne K (.ref C_InvalidScrollError) (.ref C_EmptyHistoryError) = some false) ∧ (PySem.W.kitOne K (.ref C_InvalidScrollError) (.type "ValueError") = some true) ∧ (PySem.W.kitOne K (.ref C_InvalidScrollError) (.ref C_InvalidHeightError) = some false) ∧ (PySem.W.kitOne K (.ref C_InvalidScrollError) (.ref C_InvalidScrollError) = some true) ∧ (PySem.W.kitOne K (.ref C_InvalidScrollError) (.ref C_InvalidDocumentError) = some false) ∧ (PySem.W.kitOne K (.ref C_InvalidScrollError) (.ref C_EndError) = some false) ∧ (PySem.W.kitOne K (.ref C_InvalidScrollError) (.ref C_InvalidTitleError) = some false) ∧ (PySem.W.kitOne K (.ref C_InvalidScrollError) (.ref C_InvalidDepthError) = some false) ∧ (PySem.W.kitOne K (.ref C_InvalidScrollError) (.ref C_HiddenLineError) = some false) ∧ (PySem.W.kitOne K (.ref C_InvalidScrollError) (.ref C_TooDeepError) = some false) ∧ (PySem.W.kitOne K (.ref C_InvalidScrollError) (.ref C_TooManyLinesError) = some false) ∧ (PySem.W.kitOne K (.ref C_InvalidScrollError) (.ref C_EmptyOutlineError) = some false) ∧ (PySem.W.kitOne K (.ref C_TooDeepError) (.ref C_InvalidFoldsError) = some false) ∧ (PySem.W.kitOne K (.ref C_TooDeepError) (.ref C_InvalidNumberError) = some false) ∧ (PySem.W.kitOne K (.ref C_TooDeepError) (.ref C_InvalidObservationsError) = some false) ∧ (PySem.W.kitOne K (.ref C_TooDeepError) (.ref C_InvalidReadingError) = some false) ∧ (PySem.W.kitOne K (.ref C_TooDeepError) (.ref C_InvalidTextError) = some false) ∧ (PySem.W.kitOne K (.ref C_TooDeepError) (.ref C_InvalidOutlineError) = some false) ∧ (PySem.W.kitOne K (.ref C_TooDeepError) (.ref C_InvalidLineError) = some false) ∧ (PySem.W.kitOne K (.ref C_TooDeepError) (.ref C_EmptyHistoryError) = some false) ∧ (PySem.W.kitOne K (.ref C_TooDeepError) (.type "ValueError") = some true) ∧ (PySem.W.kitOne K (.ref C_TooDeepError) (.ref C_InvalidHeightError) = some false) ∧ (PySem.W.kitOne K (.ref C_TooDeepError) (.ref C_InvalidScrollError) = some false) ∧ (PySem.W.kitOne K (.ref C_TooDeepError) (.ref C_InvalidDocumentError) = some false) ∧ (PySem.W.kitOne K (.ref C_TooDeepError) (.ref C_EndError) = some false) ∧ (PySem.W.kitOne K (.ref C_TooDeepError) (.ref C_InvalidTitleError) = some false) ∧ (PySem.W.kitOne K (.ref C_TooDeepError) (.ref C_InvalidDepthError) = some false) ∧ (PySem.W.kitOne K (.ref C_TooDeepError) (.ref C_HiddenLineError) = some false) ∧ (PySem.W.kitOne K (.ref C_TooDeepError) (.ref C_TooDeepError) = some true) ∧ (PySem.W.kitOne K (.ref C_TooDeepError) (.ref C_TooManyLinesError) = some false) ∧ (PySem.W.kitOne K (.ref C_TooDeepError) (.ref C_EmptyOutlineError) = some false) ∧ (GV mg "StickyHeadsError" (.ref C_StickyHeadsError)) ∧ (PySem.W.exmOne K (.ref C_InvalidOutlineError) (.ref C_StickyHeadsError) = some true) ∧ (PySem.W.exmOne K (.ref C_InvalidLineError) (.ref C_StickyHeadsError) = some true) ∧ (PySem.W.exmOne K (.ref C_InvalidHeightError) (.ref C_StickyHeadsError) = some true) ∧ (PySem.W.exmOne K (.ref C_InvalidScrollError) (.ref C_StickyHeadsError) = some true) ∧ (PySem.W.exmOne K (.ref C_TooDeepError) (.ref C_StickyHeadsError) = some true) ∧ (ExcC K mg "InvalidOutlineError" C_InvalidOutlineError) ∧ (ExcC K mg "InvalidScrollError" C_InvalidScrollError) ∧ (ExcC K mg "InvalidHeightError" C_InvalidHeightError) ∧ (ExcC K mg "InvalidLineError" C_InvalidLineError) ∧ True) :
    Ok P w K mg base CX0 8 "law" ["script"] (sp_law K) := by
  obtain ⟨C_EmptyHistoryError, C_EmptyOutlineError, C_EndError, C_HiddenLineError, C_InvalidDepthError, C_InvalidDocumentError, C_InvalidFoldsError, C_InvalidHeightError, C_InvalidLineError, C_InvalidNumberError, C_InvalidObservationsError, C_InvalidOutlineError, C_InvalidReadingError, C_InvalidScrollError, C_InvalidTextError, C_InvalidTitleError, C_StickyHeadsError, C_TooDeepError, C_TooManyLinesError, X_TooDeepError, T_TooDeepError, nf_TooDeepError, g_InvalidFoldsError, g_InvalidNumberError, g_InvalidObservationsError, g_InvalidReadingError, g_InvalidTextError, g_InvalidOutlineError, g_InvalidLineError, g_EmptyHistoryError, n_ValueError, g_InvalidHeightError, g_InvalidScrollError, g_InvalidDocumentError, g_EndError, g_InvalidTitleError, g_InvalidDepthError, g_HiddenLineError, g_TooDeepError, g_TooManyLinesError, g_EmptyOutlineError, T_InvalidOutlineError, i_InvalidOutlineError_InvalidFoldsError, i_InvalidOutlineError_InvalidNumberError, i_InvalidOutlineError_InvalidObservationsError, i_InvalidOutlineError_InvalidReadingError, i_InvalidOutlineError_InvalidTextError, i_InvalidOutlineError_InvalidOutlineError, i_InvalidOutlineError_InvalidLineError, i_InvalidOutlineError_EmptyHistoryError, iv_InvalidOutlineError, i_InvalidOutlineError_InvalidHeightError, i_InvalidOutlineError_InvalidScrollError, i_InvalidOutlineError_InvalidDocumentError, i_InvalidOutlineError_EndError, i_InvalidOutlineError_InvalidTitleError, i_InvalidOutlineError_InvalidDepthError, i_InvalidOutlineError_HiddenLineError, i_InvalidOutlineError_TooDeepError, i_InvalidOutlineError_TooManyLinesError, i_InvalidOutlineError_EmptyOutlineError, T_InvalidLineError, i_InvalidLineError_InvalidFoldsError, i_InvalidLineError_InvalidNumberError, i_InvalidLineError_InvalidObservationsError, i_InvalidLineError_InvalidReadingError, i_InvalidLineError_InvalidTextError, i_InvalidLineError_InvalidOutlineError, i_InvalidLineError_InvalidLineError, i_InvalidLineError_EmptyHistoryError, iv_InvalidLineError, i_InvalidLineError_InvalidHeightError, i_InvalidLineError_InvalidScrollError, i_InvalidLineError_InvalidDocumentError, i_InvalidLineError_EndError, i_InvalidLineError_InvalidTitleError, i_InvalidLineError_InvalidDepthError, i_InvalidLineError_HiddenLineError, i_InvalidLineError_TooDeepError, i_InvalidLineError_TooManyLinesError, i_InvalidLineError_EmptyOutlineError, T_InvalidHeightError, i_InvalidHeightError_InvalidFoldsError, i_InvalidHeightError_InvalidNumberError, i_InvalidHeightError_InvalidObservationsError, i_InvalidHeightError_InvalidReadingError, i_InvalidHeightError_InvalidTextError, i_InvalidHeightError_InvalidOutlineError, i_InvalidHeightError_InvalidLineError, i_InvalidHeightError_EmptyHistoryError, iv_InvalidHeightError, i_InvalidHeightError_InvalidHeightError, i_InvalidHeightError_InvalidScrollError, i_InvalidHeightError_InvalidDocumentError, i_InvalidHeightError_EndError, i_InvalidHeightError_InvalidTitleError, i_InvalidHeightError_InvalidDepthError, i_InvalidHeightError_HiddenLineError, i_InvalidHeightError_TooDeepError, i_InvalidHeightError_TooManyLinesError, i_InvalidHeightError_EmptyOutlineError, T_InvalidScrollError, i_InvalidScrollError_InvalidFoldsError, i_InvalidScrollError_InvalidNumberError, i_InvalidScrollError_InvalidObservationsError, i_InvalidScrollError_InvalidReadingError, i_InvalidScrollError_InvalidTextError, i_InvalidScrollError_InvalidOutlineError, i_InvalidScrollError_InvalidLineError, i_InvalidScrollError_EmptyHistoryError, iv_InvalidScrollError, i_InvalidScrollError_InvalidHeightError, i_InvalidScrollError_InvalidScrollError, i_InvalidScrollError_InvalidDocumentError, i_InvalidScrollError_EndError, i_InvalidScrollError_InvalidTitleError, i_InvalidScrollError_InvalidDepthError, i_InvalidScrollError_HiddenLineError, i_InvalidScrollError_TooDeepError, i_InvalidScrollError_TooManyLinesError, i_InvalidScrollError_EmptyOutlineError, i_TooDeepError_InvalidFoldsError, i_TooDeepError_InvalidNumberError, i_TooDeepError_InvalidObservationsError, i_TooDeepError_InvalidReadingError, i_TooDeepError_InvalidTextError, i_TooDeepError_InvalidOutlineError, i_TooDeepError_InvalidLineError, i_TooDeepError_EmptyHistoryError, iv_TooDeepError, i_TooDeepError_InvalidHeightError, i_TooDeepError_InvalidScrollError, i_TooDeepError_InvalidDocumentError, i_TooDeepError_EndError, i_TooDeepError_InvalidTitleError, i_TooDeepError_InvalidDepthError, i_TooDeepError_HiddenLineError, i_TooDeepError_TooDeepError, i_TooDeepError_TooManyLinesError, i_TooDeepError_EmptyOutlineError, g_StickyHeadsError, m_InvalidOutlineError_StickyHeadsError, m_InvalidLineError_StickyHeadsError, m_InvalidHeightError_StickyHeadsError, m_InvalidScrollError_StickyHeadsError, m_TooDeepError_StickyHeadsError, X_InvalidOutlineError, X_InvalidScrollError, X_InvalidHeightError, X_InvalidLineError, -⟩ := xc
  have k__law_source := ok_law_source (P := P) (w := w) (base := base) d__law_source B
  have k__law_cells := ok_law_cells (P := P) (w := w) (base := base) d__law_cells B
  have k__law_draw := ok_law_draw (P := P) (w := w) (base := base) d__law_draw B
  have k__law_outline := ok_law_outline (P := P) (w := w) (base := base) d__law_outline B k__law_draw
  have k__law_rows := ok_law_rows (P := P) (w := w) (base := base) d__law_rows B k__law_draw
  have k__law_last := ok_law_last (P := P) (w := w) (base := base) d__law_last B
  have k__law_not_an_outline := ok_law_not_an_outline (P := P) (w := w) (base := base) d__law_not_an_outline B k__law_draw
  have k_is_integer := ok_is_integer (P := P) (w := w) (base := base) d_is_integer B
  have k_is_outline := ok_is_outline (P := P) (w := w) (base := base) d_is_outline B g_MAX_LINES k_is_integer
  have k_check_outline := ok_check_outline (P := P) (w := w) (base := base) d_check_outline B X_InvalidOutlineError k_is_outline
  have k_last_scroll := ok_last_scroll (P := P) (w := w) (base := base) d_last_scroll B
  have k_check_scroll := ok_check_scroll (P := P) (w := w) (base := base) d_check_scroll B X_InvalidScrollError k_is_integer k_last_scroll
  have k_top_of := ok_top_of (P := P) (w := w) (base := base) d_top_of B
  have k_top_line := ok_top_line (P := P) (w := w) (base := base) d_top_line B k_check_outline k_check_scroll k_top_of
  have k_headings_of := ok_headings_of (P := P) (w := w) (base := base) d_headings_of B
  have k_view_of := ok_view_of (P := P) (w := w) (base := base) d_view_of B k_headings_of k_top_of
  have k_check_height := ok_check_height (P := P) (w := w) (base := base) d_check_height B X_InvalidHeightError g_MOST_ROWS k_is_integer
  have k_check_arguments := ok_check_arguments (P := P) (w := w) (base := base) d_check_arguments B k_check_outline k_check_height k_check_scroll
  have k_view := ok_view (P := P) (w := w) (base := base) d_view B k_view_of k_check_arguments
  have k_shown_of := ok_shown_of (P := P) (w := w) (base := base) d_shown_of B k_top_of
  have k_shown_lines := ok_shown_lines (P := P) (w := w) (base := base) d_shown_lines B k_shown_of k_check_arguments
  have k_check_line := ok_check_line (P := P) (w := w) (base := base) d_check_line B X_InvalidLineError k_is_integer
  have k_interval_for := ok_interval_for (P := P) (w := w) (base := base) d_interval_for B
  have k_scrolls_for := ok_scrolls_for (P := P) (w := w) (base := base) d_scrolls_for B k_check_outline k_check_line k_check_height k_interval_for
  have k_nearest_for := ok_nearest_for (P := P) (w := w) (base := base) d_nearest_for B k_interval_for
  have k_scroll_to_show := ok_scroll_to_show (P := P) (w := w) (base := base) d_scroll_to_show B X_TooDeepError k_check_line k_nearest_for k_check_arguments
  have k_scrolls_for_both := ok_scrolls_for_both (P := P) (w := w) (base := base) d_scrolls_for_both B k_check_outline k_check_line k_check_height k_interval_for
  have k__law_error_name := ok_law_error_name (P := P) (w := w) (base := base) d__law_error_name B T_TooDeepError nf_TooDeepError g_InvalidFoldsError g_InvalidNumberError g_InvalidObservationsError g_InvalidReadingError g_InvalidTextError g_InvalidOutlineError g_InvalidLineError g_EmptyHistoryError n_ValueError g_InvalidHeightError g_InvalidScrollError g_InvalidDocumentError g_EndError g_InvalidTitleError g_InvalidDepthError g_HiddenLineError g_TooDeepError g_TooManyLinesError g_EmptyOutlineError T_InvalidOutlineError i_InvalidOutlineError_InvalidFoldsError i_InvalidOutlineError_InvalidNumberError i_InvalidOutlineError_InvalidObservationsError i_InvalidOutlineError_InvalidReadingError i_InvalidOutlineError_InvalidTextError i_InvalidOutlineError_InvalidOutlineError i_InvalidOutlineError_InvalidLineError i_InvalidOutlineError_EmptyHistoryError iv_InvalidOutlineError i_InvalidOutlineError_InvalidHeightError i_InvalidOutlineError_InvalidScrollError i_InvalidOutlineError_InvalidDocumentError i_InvalidOutlineError_EndError i_InvalidOutlineError_InvalidTitleError i_InvalidOutlineError_InvalidDepthError i_InvalidOutlineError_HiddenLineError i_InvalidOutlineError_TooDeepError i_InvalidOutlineError_TooManyLinesError i_InvalidOutlineError_EmptyOutlineError T_InvalidLineError i_InvalidLineError_InvalidFoldsError i_InvalidLineError_InvalidNumberError i_InvalidLineError_InvalidObservationsError i_InvalidLineError_InvalidReadingError i_InvalidLineError_InvalidTextError i_InvalidLineError_InvalidOutlineError i_InvalidLineError_InvalidLineError i_InvalidLineError_EmptyHistoryError iv_InvalidLineError i_InvalidLineError_InvalidHeightError i_InvalidLineError_InvalidScrollError i_InvalidLineError_InvalidDocumentError i_InvalidLineError_EndError i_InvalidLineError_InvalidTitleError i_InvalidLineError_InvalidDepthError i_InvalidLineError_HiddenLineError i_InvalidLineError_TooDeepError i_InvalidLineError_TooManyLinesError i_InvalidLineError_EmptyOutlineError T_InvalidHeightError i_InvalidHeightError_InvalidFoldsError i_InvalidHeightError_InvalidNumberError i_InvalidHeightError_InvalidObservationsError i_InvalidHeightError_InvalidReadingError i_InvalidHeightError_InvalidTextError i_InvalidHeightError_InvalidOutlineError i_InvalidHeightError_InvalidLineError i_InvalidHeightError_EmptyHistoryError iv_InvalidHeightError i_InvalidHeightError_InvalidHeightError i_InvalidHeightError_InvalidScrollError i_InvalidHeightError_InvalidDocumentError i_InvalidHeightError_EndError i_InvalidHeightError_InvalidTitleError i_InvalidHeightError_InvalidDepthError i_InvalidHeightError_HiddenLineError i_InvalidHeightError_TooDeepError i_InvalidHeightError_TooManyLinesError i_InvalidHeightError_EmptyOutlineError T_InvalidScrollError i_InvalidScrollError_InvalidFoldsError i_InvalidScrollError_InvalidNumberError i_InvalidScrollError_InvalidObservationsError i_InvalidScrollError_InvalidReadingError i_InvalidScrollError_InvalidTextError i_InvalidScrollError_InvalidOutlineError i_InvalidScrollError_InvalidLineError i_InvalidScrollError_EmptyHistoryError iv_InvalidScrollError i_InvalidScrollError_InvalidHeightError i_InvalidScrollError_InvalidScrollError i_InvalidScrollError_InvalidDocumentError i_InvalidScrollError_EndError i_InvalidScrollError_InvalidTitleError i_InvalidScrollError_InvalidDepthError i_InvalidScrollError_HiddenLineError i_InvalidScrollError_TooDeepError i_InvalidScrollError_TooManyLinesError i_InvalidScrollError_EmptyOutlineError i_TooDeepError_InvalidFoldsError i_TooDeepError_InvalidNumberError i_TooDeepError_InvalidObservationsError i_TooDeepError_InvalidReadingError i_TooDeepError_InvalidTextError i_TooDeepError_InvalidOutlineError i_TooDeepError_InvalidLineError i_TooDeepError_EmptyHistoryError iv_TooDeepError i_TooDeepError_InvalidHeightError i_TooDeepError_InvalidScrollError i_TooDeepError_InvalidDocumentError i_TooDeepError_EndError i_TooDeepError_InvalidTitleError i_TooDeepError_InvalidDepthError i_TooDeepError_HiddenLineError i_TooDeepError_TooDeepError i_TooDeepError_TooManyLinesError i_TooDeepError_EmptyOutlineError
  have k__law_raised := ok_law_raised (P := P) (w := w) (base := base) d__law_raised B k_top_line k_view k_shown_lines k_scrolls_for k_scroll_to_show k_scrolls_for_both k__law_error_name g_StickyHeadsError m_InvalidOutlineError_StickyHeadsError m_InvalidLineError_StickyHeadsError m_InvalidHeightError_StickyHeadsError m_InvalidScrollError_StickyHeadsError m_TooDeepError_StickyHeadsError
  have k__law_due := ok_law_due (P := P) (w := w) (base := base) d__law_due B
  have k__law_holds := ok_law_holds (P := P) (w := w) (base := base) d__law_holds B k__law_draw k__law_outline k__law_rows k__law_last k__law_not_an_outline k__law_raised k__law_due
  have k_law := ok_law (P := P) (w := w) (base := base) d_law B k__law_source k__law_cells k__law_holds
  exact k_law


end
end Hz
open PySem PySem.W PyProof.Rows
set_option maxRecDepth 100000 in
set_option maxHeartbeats 0 in
theorem PySem.Challenge.cw_stickyheads_k19_invalid_arguments_of_vie_holds : PySem.Challenge.rw_stickyheads_k19_invalid_arguments_of_vie.Holds := by
  w_on; o_law; k_head; (case hw => w_witness2)
  k_fill
  refine Hz.walkG (l := PySem.Challenge.rw_stickyheads_k19_invalid_arguments_of_vie) (n := 63) (k := 8) (x := "script") (CX := fun _ => L2.CX0) (sp := fun w => Hz.sp_law _) rfl (by decide) rfl ⟨⟨rfl, by decide, by decide⟩, rfl⟩ (fun w h Y => PySem.W.kIn_of Y) ?F
    (fun w H a ns hl hb _ hS => by
      obtain ⟨L, l, hS⟩ := Hz.scr_start hS
      exact ⟨a, ns, L, rfl, l, hS, hl, by first | exact fun _ => rfl | exact fun _ _ => rfl⟩) (fun _ _ _ _ _ h => h)
  case F =>
    intro w mg fa h KX G hmg base _ _
    refine Hz.law_ok ⟨?_, ?_, ?_, ?_, ?_, ?_, ?_, ?_, ?_, ?_, ?_, ?_, ?_, ?_, ?_, ?_, ?_, ?_, ?_, ?_⟩ ?_ ?_ ?_ ?_ ?_ ?_ ?_ ?_ ?_ ?_ ?_ ?_ ?_ ?_ ?_ ?_ ?_ ?_ ?_ ?_ ?_ ?_ ?_ ?_ ?_ ?_ ?_ ?_ ?_ ?_ ?_ ?_ ?_ ?_ ?_
    iterate 20 (refine Hz.no_mk KX G ?_; k_is)
    · refine' Hz.gv_mk KX G ?a ?r; (case a => k_is); (case r => exact ⟨_, rfl⟩)
    · refine' Hz.gv_mk KX G ?a ?r; (case a => k_is); (case r => exact ⟨_, rfl⟩)
    iterate 32 (refine' Hz.df_mk KX G ?a ?l ?c ?k; (case a => k_is); (case l => k_is); (case c => k_is); (case k => k_is))
    refine' ⟨_, _, _, _, _, _, _, _, _, _, _, _, _, _, _, _, _, _, _, Hz.errI_mk (qual := "TooDeepError.__init__") (st := Hz.i_TooDeepError) Hz.si_TooDeepError (fun S hm r v A outer s H Q E => Hz.bi_TooDeepError hm r v A outer s H E) (fun a y H Q T no ea k => Hz.ini_run T no ea k) (fun us hl => match us, hl with | [_, _], _ => rfl) (Hz.cls_mk KX G ?hTooDeepError) (Hz.cls_mk KX G ?sTooDeepError) ?aTooDeepError ?bTooDeepError ?cTooDeepError ?dTooDeepError ?eTooDeepError ?fTooDeepError ?iTooDeepError ?jTooDeepError ?kTooDeepError ?lTooDeepError ?mTooDeepError ?nTooDeepError ?oTooDeepError, ⟨?aT_TooDeepError, ?bT_TooDeepError, ?cT_TooDeepError, ?dT_TooDeepError, ?eT_TooDeepError, ?fT_TooDeepError, ?gT_TooDeepError, ?hT_TooDeepError, ?iT_TooDeepError⟩, ?nf_TooDeepError, Hz.cls_mk KX G ?g_InvalidFoldsError, Hz.cls_mk KX G ?g_InvalidNumberError, Hz.cls_mk KX G ?g_InvalidObservationsError, Hz.cls_mk KX G ?g_InvalidReadingError, Hz.cls_mk KX G ?g_InvalidTextError, Hz.cls_mk KX G ?g_InvalidOutlineError, Hz.cls_mk KX G ?g_InvalidLineError, Hz.cls_mk KX G ?g_EmptyHistoryError, Hz.no_mk KX G ?n_ValueError, Hz.cls_mk KX G ?g_InvalidHeightError, Hz.cls_mk KX G ?g_InvalidScrollError, Hz.cls_mk KX G ?g_InvalidDocumentError, Hz.cls_mk KX G ?g_EndError, Hz.cls_mk KX G ?g_InvalidTitleError, Hz.cls_mk KX G ?g_InvalidDepthError, Hz.cls_mk KX G ?g_HiddenLineError, Hz.cls_mk KX G ?g_TooDeepError, Hz.cls_mk KX G ?g_TooManyLinesError, Hz.cls_mk KX G ?g_EmptyOutlineError, ⟨?aT_InvalidOutlineError, ?bT_InvalidOutlineError, ?cT_InvalidOutlineError, ?dT_InvalidOutlineError, ?eT_InvalidOutlineError, ?fT_InvalidOutlineError, ?gT_InvalidOutlineError, ?hT_InvalidOutlineError, ?iT_InvalidOutlineError⟩, ?i_InvalidOutlineError_InvalidFoldsError, ?i_InvalidOutlineError_InvalidNumberError, ?i_InvalidOutlineError_InvalidObservationsError, ?i_InvalidOutlineError_InvalidReadingError, ?i_InvalidOutlineError_InvalidTextError, ?i_InvalidOutlineError_InvalidOutlineError, ?i_InvalidOutlineError_InvalidLineError, ?i_InvalidOutlineError_EmptyHistoryError, ?iv_InvalidOutlineError, ?i_InvalidOutlineError_InvalidHeightError, ?i_InvalidOutlineError_InvalidScrollError, ?i_InvalidOutlineError_InvalidDocumentError, ?i_InvalidOutlineError_EndError, ?i_InvalidOutlineError_InvalidTitleError, ?i_InvalidOutlineError_InvalidDepthError, ?i_InvalidOutlineError_HiddenLineError, ?i_InvalidOutlineError_TooDeepError, ?i_InvalidOutlineError_TooManyLinesError, ?i_InvalidOutlineError_EmptyOutlineError, ⟨?aT_InvalidLineError, ?bT_InvalidLineError, ?cT_InvalidLineError, ?dT_InvalidLineError, ?eT_InvalidLineError, ?fT_InvalidLineError, ?gT_InvalidLineError, ?hT_InvalidLineError, ?iT_InvalidLineError⟩, ?i_InvalidLineError_InvalidFoldsError, ?i_InvalidLineError_InvalidNumberError, ?i_InvalidLineError_InvalidObservationsError, ?i_InvalidLineError_InvalidReadingError, ?i_InvalidLineError_InvalidTextError, ?i_InvalidLineError_InvalidOutlineError, ?i_InvalidLineError_InvalidLineError, ?i_InvalidLineError_EmptyHistoryError, ?iv_InvalidLineError, ?i_InvalidLineError_InvalidHeightError, ?i_InvalidLineError_InvalidScrollError, ?i_InvalidLineError_InvalidDocumentError, ?i_InvalidLineError_EndError, ?i_InvalidLineError_InvalidTitleError, ?i_InvalidLineError_InvalidDepthError, ?i_InvalidLineError_HiddenLineError, ?i_InvalidLineError_TooDeepError, ?i_InvalidLineError_TooManyLinesError, ?i_InvalidLineError_EmptyOutlineError, ⟨?aT_InvalidHeightError, ?bT_InvalidHeightError, ?cT_InvalidHeightError, ?dT_InvalidHeightError, ?eT_InvalidHeightError, ?fT_InvalidHeightError, ?gT_InvalidHeightError, ?hT_InvalidHeightError, ?iT_InvalidHeightError⟩, ?i_InvalidHeightError_InvalidFoldsError, ?i_InvalidHeightError_InvalidNumberError, ?i_InvalidHeightError_InvalidObservationsError, ?i_InvalidHeightError_InvalidReadingError, ?i_InvalidHeightError_InvalidTextError, ?i_InvalidHeightError_InvalidOutlineError, ?i_InvalidHeightError_InvalidLineError, ?i_InvalidHeightError_EmptyHistoryError, ?iv_InvalidHeightError, ?i_InvalidHeightError_InvalidHeightError, ?i_InvalidHeightError_InvalidScrollError, ?i_InvalidHeightError_InvalidDocumentError, ?i_InvalidHeightError_EndError, ?i_InvalidHeightError_InvalidTitleError, ?i_InvalidHeightError_InvalidDepthError, ?i_InvalidHeightError_HiddenLineError, ?i_InvalidHeightError_TooDeepError, ?i_InvalidHeightError_TooManyLinesError, ?i_InvalidHeightError_EmptyOutlineError, ⟨?aT_InvalidScrollError, ?bT_InvalidScrollError, ?cT_InvalidScrollError, ?dT_InvalidScrollError, ?eT_InvalidScrollError, ?fT_InvalidScrollError, ?gT_InvalidScrollError, ?hT_InvalidScrollError, ?iT_InvalidScrollError⟩, ?i_InvalidScrollError_InvalidFoldsError, ?i_InvalidScrollError_InvalidNumberError, ?i_InvalidScrollError_InvalidObservationsError, ?i_InvalidScrollError_InvalidReadingError, ?i_InvalidScrollError_InvalidTextError, ?i_InvalidScrollError_InvalidOutlineError, ?i_InvalidScrollError_InvalidLineError, ?i_InvalidScrollError_EmptyHistoryError, ?iv_InvalidScrollError, ?i_InvalidScrollError_InvalidHeightError, ?i_InvalidScrollError_InvalidScrollError, ?i_InvalidScrollError_InvalidDocumentError, ?i_InvalidScrollError_EndError, ?i_InvalidScrollError_InvalidTitleError, ?i_InvalidScrollError_InvalidDepthError, ?i_InvalidScrollError_HiddenLineError, ?i_InvalidScrollError_TooDeepError, ?i_InvalidScrollError_TooManyLinesError, ?i_InvalidScrollError_EmptyOutlineError, ?i_TooDeepError_InvalidFoldsError, ?i_TooDeepError_InvalidNumberError, ?i_TooDeepError_InvalidObservationsError, ?i_TooDeepError_InvalidReadingError, ?i_TooDeepError_InvalidTextError, ?i_TooDeepError_InvalidOutlineError, ?i_TooDeepError_InvalidLineError, ?i_TooDeepError_EmptyHistoryError, ?iv_TooDeepError, ?i_TooDeepError_InvalidHeightError, ?i_TooDeepError_InvalidScrollError, ?i_TooDeepError_InvalidDocumentError, ?i_TooDeepError_EndError, ?i_TooDeepError_InvalidTitleError, ?i_TooDeepError_InvalidDepthError, ?i_TooDeepError_HiddenLineError, ?i_TooDeepError_TooDeepError, ?i_TooDeepError_TooManyLinesError, ?i_TooDeepError_EmptyOutlineError, Hz.cls_mk KX G ?g_StickyHeadsError, Hz.exm_own ?am_InvalidOutlineError_StickyHeadsError ?bm_InvalidOutlineError_StickyHeadsError ?cm_InvalidOutlineError_StickyHeadsError ?dm_InvalidOutlineError_StickyHeadsError, Hz.exm_own ?am_InvalidLineError_StickyHeadsError ?bm_InvalidLineError_StickyHeadsError ?cm_InvalidLineError_StickyHeadsError ?dm_InvalidLineError_StickyHeadsError, Hz.exm_own ?am_InvalidHeightError_StickyHeadsError ?bm_InvalidHeightError_StickyHeadsError ?cm_InvalidHeightError_StickyHeadsError ?dm_InvalidHeightError_StickyHeadsError, Hz.exm_own ?am_InvalidScrollError_StickyHeadsError ?bm_InvalidScrollError_StickyHeadsError ?cm_InvalidScrollError_StickyHeadsError ?dm_InvalidScrollError_StickyHeadsError, Hz.exm_own ?am_TooDeepError_StickyHeadsError ?bm_TooDeepError_StickyHeadsError ?cm_TooDeepError_StickyHeadsError ?dm_TooDeepError_StickyHeadsError, Hz.excC_mk KX G ?hInvalidOutlineError ?aInvalidOutlineError ?bInvalidOutlineError ?cInvalidOutlineError ?dInvalidOutlineError ?eInvalidOutlineError ?fInvalidOutlineError, Hz.excC_mk KX G ?hInvalidScrollError ?aInvalidScrollError ?bInvalidScrollError ?cInvalidScrollError ?dInvalidScrollError ?eInvalidScrollError ?fInvalidScrollError, Hz.excC_mk KX G ?hInvalidHeightError ?aInvalidHeightError ?bInvalidHeightError ?cInvalidHeightError ?dInvalidHeightError ?eInvalidHeightError ?fInvalidHeightError, Hz.excC_mk KX G ?hInvalidLineError ?aInvalidLineError ?bInvalidLineError ?cInvalidLineError ?dInvalidLineError ?eInvalidLineError ?fInvalidLineError, trivial⟩
    (case g_InvalidFoldsError => k_is)
    (case g_InvalidNumberError => k_is)
    (case g_InvalidObservationsError => k_is)
    (case g_InvalidReadingError => k_is)
    (case g_InvalidTextError => k_is)
    (case g_InvalidOutlineError => k_is)
    (case g_InvalidLineError => k_is)
    (case g_EmptyHistoryError => k_is)
    (case g_InvalidHeightError => k_is)
    (case g_InvalidScrollError => k_is)
    (case g_InvalidDocumentError => k_is)
    (case g_EndError => k_is)
    (case g_InvalidTitleError => k_is)
    (case g_InvalidDepthError => k_is)
    (case g_HiddenLineError => k_is)
    (case g_TooDeepError => k_is)
    (case g_TooManyLinesError => k_is)
    (case g_EmptyOutlineError => k_is)
    (case g_StickyHeadsError => k_is)
    (case hTooDeepError => first | rfl | k_is); (case sTooDeepError => first | rfl | k_is); (case aTooDeepError => k_is); (case bTooDeepError => k_is); (case cTooDeepError => k_is); (case dTooDeepError => k_is); (case eTooDeepError => k_is); (case fTooDeepError => k_is); (case iTooDeepError => k_is); (case jTooDeepError => k_is); (case kTooDeepError => k_is); (case lTooDeepError => k_is); (case mTooDeepError => k_is); (case nTooDeepError => k_is); (case oTooDeepError => k_is)
    (case aT_TooDeepError => k_is); (case bT_TooDeepError => k_is); (case cT_TooDeepError => k_is); (case dT_TooDeepError => k_is); (case eT_TooDeepError => k_is); (case fT_TooDeepError => k_is); (case gT_TooDeepError => k_is); (case hT_TooDeepError => k_is); (case iT_TooDeepError => k_is)
    (case nf_TooDeepError => k_is)
    (case n_ValueError => k_is)
    (case aT_InvalidOutlineError => k_is); (case bT_InvalidOutlineError => k_is); (case cT_InvalidOutlineError => k_is); (case dT_InvalidOutlineError => k_is); (case eT_InvalidOutlineError => k_is); (case fT_InvalidOutlineError => k_is); (case gT_InvalidOutlineError => k_is); (case hT_InvalidOutlineError => k_is); (case iT_InvalidOutlineError => k_is)
    (case i_InvalidOutlineError_InvalidFoldsError => kit_is)
    (case i_InvalidOutlineError_InvalidNumberError => kit_is)
    (case i_InvalidOutlineError_InvalidObservationsError => kit_is)
    (case i_InvalidOutlineError_InvalidReadingError => kit_is)
    (case i_InvalidOutlineError_InvalidTextError => kit_is)
    (case i_InvalidOutlineError_InvalidOutlineError => kit_is)
    (case i_InvalidOutlineError_InvalidLineError => kit_is)
    (case i_InvalidOutlineError_EmptyHistoryError => kit_is)
    (case iv_InvalidOutlineError => kit_is)
    (case i_InvalidOutlineError_InvalidHeightError => kit_is)
    (case i_InvalidOutlineError_InvalidScrollError => kit_is)
    (case i_InvalidOutlineError_InvalidDocumentError => kit_is)
    (case i_InvalidOutlineError_EndError => kit_is)
    (case i_InvalidOutlineError_InvalidTitleError => kit_is)
    (case i_InvalidOutlineError_InvalidDepthError => kit_is)
    (case i_InvalidOutlineError_HiddenLineError => kit_is)
    (case i_InvalidOutlineError_TooDeepError => kit_is)
    (case i_InvalidOutlineError_TooManyLinesError => kit_is)
    (case i_InvalidOutlineError_EmptyOutlineError => kit_is)
    (case aT_InvalidLineError => k_is); (case bT_InvalidLineError => k_is); (case cT_InvalidLineError => k_is); (case dT_InvalidLineError => k_is); (case eT_InvalidLineError => k_is); (case fT_InvalidLineError => k_is); (case gT_InvalidLineError => k_is); (case hT_InvalidLineError => k_is); (case iT_InvalidLineError => k_is)
    (case i_InvalidLineError_InvalidFoldsError => kit_is)
    (case i_InvalidLineError_InvalidNumberError => kit_is)
    (case i_InvalidLineError_InvalidObservationsError => kit_is)
    (case i_InvalidLineError_InvalidReadingError => kit_is)
    (case i_InvalidLineError_InvalidTextError => kit_is)
    (case i_InvalidLineError_InvalidOutlineError => kit_is)
    (case i_InvalidLineError_InvalidLineError => kit_is)
    (case i_InvalidLineError_EmptyHistoryError => kit_is)
    (case iv_InvalidLineError => kit_is)
    (case i_InvalidLineError_InvalidHeightError => kit_is)
    (case i_InvalidLineError_InvalidScrollError => kit_is)
    (case i_InvalidLineError_InvalidDocumentError => kit_is)
    (case i_InvalidLineError_EndError => kit_is)
    (case i_InvalidLineError_InvalidTitleError => kit_is)
    (case i_InvalidLineError_InvalidDepthError => kit_is)
    (case i_InvalidLineError_HiddenLineError => kit_is)
    (case i_InvalidLineError_TooDeepError => kit_is)
    (case i_InvalidLineError_TooManyLinesError => kit_is)
    (case i_InvalidLineError_EmptyOutlineError => kit_is)
    (case aT_InvalidHeightError => k_is); (case bT_InvalidHeightError => k_is); (case cT_InvalidHeightError => k_is); (case dT_InvalidHeightError => k_is); (case eT_InvalidHeightError => k_is); (case fT_InvalidHeightError => k_is); (case gT_InvalidHeightError => k_is); (case hT_InvalidHeightError => k_is); (case iT_InvalidHeightError => k_is)
    (case i_InvalidHeightError_InvalidFoldsError => kit_is)
    (case i_InvalidHeightError_InvalidNumberError => kit_is)
    (case i_InvalidHeightError_InvalidObservationsError => kit_is)
    (case i_InvalidHeightError_InvalidReadingError => kit_is)
    (case i_InvalidHeightError_InvalidTextError => kit_is)
    (case i_InvalidHeightError_InvalidOutlineError => kit_is)
    (case i_InvalidHeightError_InvalidLineError => kit_is)
    (case i_InvalidHeightError_EmptyHistoryError => kit_is)
    (case iv_InvalidHeightError => kit_is)
    (case i_InvalidHeightError_InvalidHeightError => kit_is)
    (case i_InvalidHeightError_InvalidScrollError => kit_is)
    (case i_InvalidHeightError_InvalidDocumentError => kit_is)
    (case i_InvalidHeightError_EndError => kit_is)
    (case i_InvalidHeightError_InvalidTitleError => kit_is)
    (case i_InvalidHeightError_InvalidDepthError => kit_is)
    (case i_InvalidHeightError_HiddenLineError => kit_is)
    (case i_InvalidHeightError_TooDeepError => kit_is)
    (case i_InvalidHeightError_TooManyLinesError => kit_is)
    (case i_InvalidHeightError_EmptyOutlineError => kit_is)
    (case aT_InvalidScrollError => k_is); (case bT_InvalidScrollError => k_is); (case cT_InvalidScrollError => k_is); (case dT_InvalidScrollError => k_is); (case eT_InvalidScrollError => k_is); (case fT_InvalidScrollError => k_is); (case gT_InvalidScrollError => k_is); (case hT_InvalidScrollError => k_is); (case iT_InvalidScrollError => k_is)
    (case i_InvalidScrollError_InvalidFoldsError => kit_is)
    (case i_InvalidScrollError_InvalidNumberError => kit_is)
    (case i_InvalidScrollError_InvalidObservationsError => kit_is)
    (case i_InvalidScrollError_InvalidReadingError => kit_is)
    (case i_InvalidScrollError_InvalidTextError => kit_is)
    (case i_InvalidScrollError_InvalidOutlineError => kit_is)
    (case i_InvalidScrollError_InvalidLineError => kit_is)
    (case i_InvalidScrollError_EmptyHistoryError => kit_is)
    (case iv_InvalidScrollError => kit_is)
    (case i_InvalidScrollError_InvalidHeightError => kit_is)
    (case i_InvalidScrollError_InvalidScrollError => kit_is)
    (case i_InvalidScrollError_InvalidDocumentError => kit_is)
    (case i_InvalidScrollError_EndError => kit_is)
    (case i_InvalidScrollError_InvalidTitleError => kit_is)
    (case i_InvalidScrollError_InvalidDepthError => kit_is)
    (case i_InvalidScrollError_HiddenLineError => kit_is)
    (case i_InvalidScrollError_TooDeepError => kit_is)
    (case i_InvalidScrollError_TooManyLinesError => kit_is)
    (case i_InvalidScrollError_EmptyOutlineError => kit_is)
    (case i_TooDeepError_InvalidFoldsError => kit_is)
    (case i_TooDeepError_InvalidNumberError => kit_is)
    (case i_TooDeepError_InvalidObservationsError => kit_is)
    (case i_TooDeepError_InvalidReadingError => kit_is)
    (case i_TooDeepError_InvalidTextError => kit_is)
    (case i_TooDeepError_InvalidOutlineError => kit_is)
    (case i_TooDeepError_InvalidLineError => kit_is)
    (case i_TooDeepError_EmptyHistoryError => kit_is)
    (case iv_TooDeepError => kit_is)
    (case i_TooDeepError_InvalidHeightError => kit_is)
    (case i_TooDeepError_InvalidScrollError => kit_is)
    (case i_TooDeepError_InvalidDocumentError => kit_is)
    (case i_TooDeepError_EndError => kit_is)
    (case i_TooDeepError_InvalidTitleError => kit_is)
    (case i_TooDeepError_InvalidDepthError => kit_is)
    (case i_TooDeepError_HiddenLineError => kit_is)
    (case i_TooDeepError_TooDeepError => kit_is)
    (case i_TooDeepError_TooManyLinesError => kit_is)
    (case i_TooDeepError_EmptyOutlineError => kit_is)
    (case am_InvalidOutlineError_StickyHeadsError => k_is); (case bm_InvalidOutlineError_StickyHeadsError => k_is); (case cm_InvalidOutlineError_StickyHeadsError => k_is); (case dm_InvalidOutlineError_StickyHeadsError => k_is)
    (case am_InvalidLineError_StickyHeadsError => k_is); (case bm_InvalidLineError_StickyHeadsError => k_is); (case cm_InvalidLineError_StickyHeadsError => k_is); (case dm_InvalidLineError_StickyHeadsError => k_is)
    (case am_InvalidHeightError_StickyHeadsError => k_is); (case bm_InvalidHeightError_StickyHeadsError => k_is); (case cm_InvalidHeightError_StickyHeadsError => k_is); (case dm_InvalidHeightError_StickyHeadsError => k_is)
    (case am_InvalidScrollError_StickyHeadsError => k_is); (case bm_InvalidScrollError_StickyHeadsError => k_is); (case cm_InvalidScrollError_StickyHeadsError => k_is); (case dm_InvalidScrollError_StickyHeadsError => k_is)
    (case am_TooDeepError_StickyHeadsError => k_is); (case bm_TooDeepError_StickyHeadsError => k_is); (case cm_TooDeepError_StickyHeadsError => k_is); (case dm_TooDeepError_StickyHeadsError => k_is)
    (case hInvalidOutlineError => k_is); (case aInvalidOutlineError => k_is); (case bInvalidOutlineError => k_exc); (case cInvalidOutlineError => k_is); (case dInvalidOutlineError => k_is); (case eInvalidOutlineError => k_is); (case fInvalidOutlineError => first | rfl | k_is)
    (case hInvalidScrollError => k_is); (case aInvalidScrollError => k_is); (case bInvalidScrollError => k_exc); (case cInvalidScrollError => k_is); (case dInvalidScrollError => k_is); (case eInvalidScrollError => k_is); (case fInvalidScrollError => first | rfl | k_is)
    (case hInvalidHeightError => k_is); (case aInvalidHeightError => k_is); (case bInvalidHeightError => k_exc); (case cInvalidHeightError => k_is); (case dInvalidHeightError => k_is); (case eInvalidHeightError => k_is); (case fInvalidHeightError => first | rfl | k_is)
    (case hInvalidLineError => k_is); (case aInvalidLineError => k_is); (case bInvalidLineError => k_exc); (case cInvalidLineError => k_is); (case dInvalidLineError => k_is); (case eInvalidLineError => k_is); (case fInvalidLineError => first | rfl | k_is)
