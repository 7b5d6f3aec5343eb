import PyProof.Rows.All
import Wide.All
import OpenK.AllK
import Wide.FinOn
import PyProof.EqAt
import PyProof.EqKinds
import PyProof.TupleCall
import PyProof.ReprRoads
import HandS.ForMost
import HandS.Exc
import HandS.TryOnly
import HandS.ExcOwn
import HandS.WordsExc
import HandS.EndBits
import HandS.Wide
import HandS.IsInst
import HandS.Flow
import HandS.Style
import HandS.RaiseMore
import HandS.Steps
import HandS.Conv
import HandS.More
import HandS.Deep
import HandS.SortInts
import HandS.SortKw
import HandS.Zip
import PyProof.ReprLen
import HandS.DictComp
import KE.KDictZip
import KE.KDictItemsList
import HandS.ListItems
import HandS.ExcCtx
import KE.KExcIs
import HandS.ExcInit
import HandS.ClsMeth
import PySem.Challenge.RW_stickyheads_k39_errors_of_observations
set_option Elab.async false
set_option linter.all false
set_option maxRecDepth 100000
set_option maxHeartbeats 4000000
set_option exponentiation.threshold 2000
/-! Hz, part A: calls of defs where it is known that no repr is under way. -/
namespace Hz
open PySem PySem.Spec PyProof.Rows L2 RZ

/-- room for k calls; no repr is under way -/
structure RoomG (k : Nat) (A : Around) : Prop where
  rm : Room k A
  gd : A.guards = some []
theorem RoomG.mono {j k : Nat} {A : Around} (r : RoomG k A) (h : j ≤ k) : RoomG j A := ⟨r.rm.mono h, r.gd⟩
theorem RoomG.deeper {k : Nat} {A : Around} (r : RoomG (k + 1) A) (env : Env) : RoomG k (A.deeper env) := ⟨r.rm.deeper env, r.gd⟩

/-- a def keeps its promise wherever no repr is under way -/
structure FnG (P : Program) (w : World) (K : PySem.W.Frag) (mg : Str → Option Value) (base : Heap) (CX : CXT) (k : Nat) (f : Addr) (fd : FuncData) (ps : List Str) (sp : Sp) : Prop where
  len : ∀ vs H Q E, sp vs H Q E → vs.length = ps.length
  run : ∀ (A : Around) (outer : List Env) (s : Shared) (H : Hp) (args : Args) (us : List Value) (vs : List V) (Q : VK) (E : XK),
    RoomG k A → Env0 P w K mg base A outer s H → BindsTo s fd args (ps.zip us) → Vals vs us → sp vs H Q E →
      codeAny (model P w) A (.call (.ref f) args) (CR CX outer P w H s Q E) s
theorem FnG.mono {P : Program} {w : World} {K : PySem.W.Frag} {mg : Str → Option Value} {base : Heap} {CX : CXT} {j k : Nat} {f : Addr} {fd : FuncData} {ps : List Str} {sp : Sp}
    (F : FnG P w K mg base CX j f fd ps sp) (h : j ≤ k) : FnG P w K mg base CX k f fd ps sp :=
  ⟨F.len, fun A o s H a us vs Q E r => F.run A o s H a us vs Q E (r.mono h)⟩

/-- by its body -/
theorem fnG_of {CX : CXT} {P : Program} {w : World} {K : PySem.W.Frag} {mg : Str → Option Value} {base : Heap} {k : Nat} {f : Addr} {name qual : Str}
    {params : Arguments} {body : List Stmt} {scope : Scope} {dV kV doc pm cdv ct oc : Value} {an od : Option Addr} {osl : Array (Option Value)} {N ps : List Str} {sp : Sp}
    (lk : K.lookup f = some ⟨oc, od, .func (PySem.W.fnOf name qual params body scope dV kV doc pm an cdv ct), osl⟩)
    (hcd : PySem.W.codeIn K cdv qual = true) (S : FnScope N ps scope) (len : ∀ vs H Q E, sp vs H Q E → vs.length = ps.length)
    (hbody : ∀ (A : Around) (outer : List Env) (s : Shared) (H : Hp) (vs : List V) (Q : VK) (E : XK),
      RoomG k (A.deeper (envOfC qual scope s.heap.objs.size f cdv)) → sp vs H Q E →
      ∃ t, PSs (cxOf CX P w K mg base N qual scope f cdv A outer s H E) body t ∧ t { nx := fun _ H' => Q .non H', rt := Q } (start N vs) H) :
    FnG P w K mg base CX (k + 1) f (PySem.W.fnOf name qual params body scope dV kV doc pm an cdv ct) ps sp := by
  refine ⟨len, fun A outer s H args us vs Q E hr e0 hb r hsp => ?_⟩
  have hl := len _ _ _ _ hsp
  have inK : K.In s.heap := e0.mod.kin.keeps fun b o e => (e0.bs b o e).1
  have lim : s.heap.NoLimit := e0.mod.nolimit.keeps fun b o e => (e0.bs b o e).1
  have kinds : ∀ y ∈ ps.zip us, scope.names.lookup y.1 = some .local ∨ (scope.names.lookup y.1 = some .cell ∧ ((cellsFrom (s.heap.objs.size + 1) scope.names []).lookup y.1).isSome = true) := by
    rintro ⟨n, v⟩ hy
    rcases S.par n (List.of_mem_zip hy).1 with q | q
    · exact .inl q
    · exact .inr ⟨q, PySem.W.cellsFrom_some _ _ _ (.inl q)⟩
  refine codeAny_call_function hr.rm.depth (inK _ _ lk) rfl S.co S.gen rfl (PySem.W.codeRec_of inK hcd) (hb _ _ _ _ ?_)
  refine wpAny_newFunctionEnv_cells S.kind kinds fun env he s1 x => ?_
  subst he
  refine ⟨lim.keeps x.toInCall.keep, codeAny_func ?_⟩
  obtain ⟨t, ht, hq⟩ := hbody A outer s H vs Q E (hr.deeper _) hsp
  have I : Inv (cxOf CX P w K mg base N qual scope f cdv A outer s H E) [] (start N vs) H s1 := inv_start S hr.rm.hd e0 hl r x
  refine wpAny_mono (ht.run [] s1 (start N vs) H _ I hq) (fun fl s' hs => ?_) fun e s' hs => hs
  cases fl with
  | ret u =>
    obtain ⟨v, σ', H', J, rv, q⟩ := hs
    exact ⟨v, H', J.os, J.bare, J.base, J.hok, rv, q⟩
  | next =>
    obtain ⟨σ', H', J, q⟩ := hs
    exact ⟨.non, H', J.os, J.bare, J.base, J.hok, rfl, q⟩
  | brk => obtain ⟨_, _, _, q⟩ := hs; exact q.elim
  | cont => obtain ⟨_, _, _, q⟩ := hs; exact q.elim

section
variable {P : Program} {w : World} {K : PySem.W.Frag} {mg : Str → Option Value} {base : Heap}
theorem FunOkG {CX : CXT} {x qual : Str} {st : Stmt} {f : Addr} {fd : FuncData} {N ps : List Str} {k : Nat} {sp : Sp} (F : Fun K x qual st f fd) (S : FnScope N ps (defScope st))
    (len : ∀ vs H Q E, sp vs H Q E → vs.length = ps.length)
    (hbody : ∀ (cdv : Value) (A : Around) (outer : List Env) (s : Shared) (H : Hp) (vs : List V) (Q : VK) (E : XK), RoomG k (A.deeper (envOfC qual (defScope st) s.heap.objs.size f cdv)) → sp vs H Q E →
      ∃ t, PSs (cxOf CX P w K mg base N qual (defScope st) f cdv A outer s H E) (defBody st) t ∧ t { nx := fun _ H' => Q .non H', rt := Q } (start N vs) H) : FnG P w K mg base CX (k + 1) f fd ps sp := by
  obtain ⟨oc, od, kV, doc, pm, an, cdv, ct, osl, rfl, lk, hcd⟩ := F.ex
  exact fnG_of lk hcd S len fun A outer s H vs Q E hr hsp => hbody cdv A outer s H vs Q E hr hsp
end

/-! ### calls -/
/-- the def's object in the fragment -/
def LK (K : PySem.W.Frag) (f : Addr) (fd : FuncData) : Prop := ∃ (oc : Value) (od : Option Addr) (osl : Array (Option Value)), K.lookup f = some ⟨oc, od, .func fd, osl⟩
theorem _root_.L2.Fun.lk {K : PySem.W.Frag} {x qual : Str} {st : Stmt} {f : Addr} {fd : FuncData} (F : Fun K x qual st f fd) : LK K f fd := by
  obtain ⟨oc, od, kV, doc, pm, an, cdv, ct, osl, rfl, lk, hcd⟩ := F.ex
  exact ⟨oc, od, osl, lk⟩
/-- a def of the module, by its name: it is there, its parameters bind, it keeps its promise -/
def Ok (P : Program) (w : World) (K : PySem.W.Frag) (mg : Str → Option Value) (base : Heap) (CX : CXT) (k : Nat) (x : Str) (ps : List Str) (sp : Sp) : Prop :=
  ∃ (f : Addr) (fd : FuncData), mg x = some (.ref f) ∧ PySem.W.keepIn K (.ref f) = true ∧ Binds K fd ps [] ∧ FnG P w K mg base CX k f fd ps sp ∧ LK K f fd
theorem Ok.mono {P : Program} {w : World} {K : PySem.W.Frag} {mg : Str → Option Value} {base : Heap} {CX : CXT} {j k : Nat} {x : Str} {ps : List Str} {sp : Sp} (F : Ok P w K mg base CX j x ps sp) (h : j ≤ k) : Ok P w K mg base CX k x ps sp := by
  obtain ⟨f, fd, a, b, c, d, e⟩ := F
  exact ⟨f, fd, a, b, c, d.mono h, e⟩
section
variable {X : Cx} {CX : CXT} {k : Nat} {f : Addr} {fd : FuncData} {ps : List Str} {sp : Sp} {E : L2.St → XK} {x : Str} {p pos : Pos} {e : Expr} {es : List Expr} {t : TA}
theorem runG {pins : List (Addr × Obj)} {σ : L2.St} {H : Hp} {s : Shared} {Q : VK} {us : List Value} {vs : List V} (F : FnG X.prog X.w X.K X.mg X.base CX k f fd ps sp) (hr : RoomG k X.A)
    (hb : Binds X.K fd ps []) (hx : PassesAt CX X σ (E σ)) (I : Inv X pins σ H s) (r : Vals vs us) (h : sp vs H Q (E σ)) :
    wpAny (model X.prog X.w) X.A (call (.ref f) us) (EP X pins σ Q) X.xe s := by
  have hl : us.length = ps.length := r.length.symm.trans (F.len _ _ _ _ h)
  have b : BindsTo s fd ⟨us, []⟩ (ps.zip us) := by
    have b := hb s us I.kIn (by rw [List.append_nil, hl])
    rw [List.append_nil] at b
    exact b
  refine wpAny_call (codeAny_mono (F.run X.A X.stack s H ⟨us, []⟩ us vs Q (E σ) hr I.env0 b r h) fun res s' hq => ?_)
  match res, hq with
  | .error e, hq => exact hx pins H s e s' I hq
  | .ok (.ret u), hq => exact I.after hq
  | .ok .next, hq => exact hq.elim
  | .ok .brk, hq => exact hq.elim
  | .ok .cont, hq => exact hq.elim
/-- f(e, ..) -/
theorem pe_callG (F : Ok X.prog X.w X.K X.mg X.base CX k x ps sp) (hr : RoomG k X.A) (hx : ∀ σ, PassesAt CX X σ (E σ)) (ha : PA X (e :: es) t) (hg : Gl X x := by rfl)
    (hdb : (x == ("__debug__" : Str)) = false := by decide) (he : starEach (e :: es) X.env = (false, eval e X.env) :: starEach es X.env := by rfl)
    (hpl : (backTo pos (starEach es X.env)).any (·.1) = false := by rfl) : PE X (.Call (.Name x p) (e :: es) [] pos) (tCallS sp E t) := by
  obtain ⟨f, fd, hm, hk, hb, F, _⟩ := F
  refine ⟨fun pins s σ H Q I h => wpAny_Call_Name_kw (ld_glob I hg hm (PySem.W.callWith_K (h₀ := X.base) I.ok.mod.kin hk ?_ he hpl) hdb)⟩
  exact thn (ha.run pos pins s σ H _ I h) fun us s1 ⟨vs, H1, I1, r, q⟩ => ⟨I1.kIn, runG F hr hb (hx σ) I1 r q⟩
/-- f() -/
theorem pe_callG0 (F : Ok X.prog X.w X.K X.mg X.base CX k x ps sp) (hr : RoomG k X.A) (hx : ∀ σ, PassesAt CX X σ (E σ)) (hg : Gl X x := by rfl)
    (hdb : (x == ("__debug__" : Str)) = false := by decide) : PE X (.Call (.Name x p) [] [] pos) (tCallS sp E tNil) := by
  obtain ⟨f, fd, hm, hk, hb, F, _⟩ := F
  exact ⟨fun pins s σ H Q I h => wpAny_Call_Name_kw (ld_glob I hg hm (PySem.W.callWith_K0 I.kIn hk (runG (us := []) F hr hb (hx σ) I .nil h)) hdb)⟩
/-- no exception leaves the callee -/
theorem pas0 {X : Cx} (σ : L2.St) : PassesAt CX0 X σ (fun _ _ _ => False) := fun _ _ _ _ _ _ h => h.elim
end

/-! ### repr -/
section
variable {X : Cx}
/-- repr(x), x data at any depth -/
def rRepr (K : PySem.W.Frag) : List V → Hp → VK → Prop := fun xs H Q => ∃ x d, xs = [x] ∧ Dp K H x d ∧ d.showable = true ∧ d.depth < 60 ∧ d.shown.length ≤ sizeLine ∧ Q (.str d.shown) H
mutual
theorem dp_noDict {K : PySem.W.Frag} {H : Hp} : ∀ {v : V} {d : PyData}, Dp K H v d → d.hasDict = false
  | _, _, .non => by simp only [PyData.hasDict]
  | _, _, .bl _ => by simp only [PyData.hasDict]
  | _, _, .int _ => by simp only [PyData.hasDict]
  | _, _, .str _ => by simp only [PyData.hasDict]
  | _, _, .lst _ h => by simp only [PyData.hasDict]; exact dpAll_noDict h
  | _, _, .tup _ h => by simp only [PyData.hasDict]; exact dpAll_noDict h
theorem dpAll_noDict {K : PySem.W.Frag} {H : Hp} : ∀ {vs : List V} {ds : List PyData}, DpAll K H vs ds → PyData.hasDictAll ds = false
  | _, _, .nil => by simp only [PyData.hasDictAll]
  | _, _, .cons h r => by simp only [PyData.hasDictAll, dp_noDict h, dpAll_noDict r, Bool.or_false]
end
theorem call_repr (gd : X.A.guards = some []) (hu : X.A.units + 64 < cLine) : CallR X (.builtin "repr") (rRepr X.K) := by
  intro pins s σ H xs us Q I r h
  obtain ⟨x, d, rfl, hd, hs, hk, hz, q⟩ := h
  obtain ⟨u, rfl, ru⟩ := vals1 r
  obtain ⟨as, rd⟩ := Dp.reads I d x u hd ru
  have nd := PyData.noDict_hsm (as := as) (dp_noDict hd)
  cases hd with
  | non =>
    cases (show u = Value.none from ru)
    exact PySem.P.repr_of_none ⟨.str _, H, I.tok _, ⟨_, rfl⟩, by simpa only [PyData.shown] using q⟩
  | bl b =>
    cases (show u = Value.bool b from ru)
    exact PySem.P.repr_of_bool ⟨.str _, H, I.tok _, ⟨_, rfl⟩, by simpa only [PyData.shown] using q⟩
  | int i =>
    obtain ⟨t, rfl⟩ := ru
    exact PySem.P.repr_of_int (by simpa [PyData.showable] using hs) ⟨.str _, H, I.tok _, ⟨_, rfl⟩, by simpa only [PyData.shown] using q⟩
  | str y =>
    obtain ⟨t, rfl⟩ := ru
    exact PySem.P.repr_of_str ⟨.str _, H, I.tok _, ⟨_, rfl⟩, by simpa only [PyData.shown] using q⟩ (by simpa only [PyData.shown] using hz)
  | lst _ _ =>
    cases (show u = Value.ref _ from ru)
    exact repr_of_reads' rd hs nd gd (by omega) (fun _ _ e => e) (fun h' u tk hk => ⟨.str _, H, I.kept hk, ⟨_, rfl⟩, q⟩) hz
  | tup _ _ =>
    cases (show u = Value.ref _ from ru)
    exact repr_of_reads' rd hs nd gd (by omega) (fun _ _ e => e) (fun h' u tk hk => ⟨.str _, H, I.kept hk, ⟨_, rfl⟩, q⟩) hz
end
/-- the law's own list: known by its object, or written -/
def ScrL (K : PySem.W.Frag) (H : Hp) (a : Addr) (xs : List V) : Prop := ∃ its : List Value, Vals xs its ∧ xs.length ≤ sizeLine ∧
  (H a = some (.frz { cls := .type "list", data := .seq its.toArray } (.lst xs)) ∨ K.lookup a = some { cls := .type "list", data := .seq its.toArray })
theorem ScrL.sq {K : PySem.W.Frag} {H : Hp} {a : Addr} {xs : List V} (h : ScrL K H a xs) : SqL K H a xs := by
  obtain ⟨its, r, z, h | h⟩ := h
  · exact .inl (.inr ⟨_, h⟩)
  · have e := r.length
    exact .inr ⟨_, its.toArray, _, h, rfl, rfl, rfl, by simp; omega, by simpa using r⟩
theorem ScrL.obj {X : Cx} {pins : List (Addr × Obj)} {σ : L2.St} {H : Hp} {s : Shared} {a : Addr} {xs : List V} (I : Inv X pins σ H s) (h : ScrL X.K H a xs) : ∃ its : List Value, Vals xs its ∧ s.heap.get? a = some { cls := .type "list", data := .seq its.toArray } := by
  obtain ⟨its, r, z, h | h⟩ := h
  · obtain ⟨e, _⟩ := I.hok a _ h
    exact ⟨its, r, e⟩
  · exact ⟨its, r, I.kIn a _ h⟩
/-- list + list, the left one the law's own -/
def rCatS (K : PySem.W.Frag) : R2 := fun x y H Q => ∃ l b xs zs, x = .ref l ∧ y = .ref b ∧ ScrL K H l xs ∧ H b = some (.lst zs) ∧ xs.length + zs.length ≤ sizeLine ∧ ∀ p, H p = none → Q (.ref p) (upd H p (.lst (xs ++ zs)))
theorem op_catS {X : Cx} : OpR X (binaryOp .Add) (rCatS X.K) := by
  intro pins s σ H x y v u Q I rx ry h
  obtain ⟨l, b, xs, zs, rfl, rfl, hS, hB, hz, q⟩ := h
  cases rx
  cases ry
  obtain ⟨its, r, e⟩ := ScrL.obj I hS
  obtain ⟨_, its2, n2, r2, hl2, e2⟩ := I.lstM hB
  have hl := r.length
  refine PySem.P.add_list e e2 ?_ (by rw [List.size_toArray, List.size_toArray]; omega)
  rw [show its.toArray ++ its2.toArray = (its ++ its2).toArray by simp]
  exact ⟨.ref _, _, I.lnew (t' := s.toks) (r.append r2) (by rw [List.length_append]; omega), rfl, q _ I.fresh⟩
end Hz

/-! Hz, the end of a law: from the promise of the law's def to the claim. -/
namespace Hz
open PySem PySem.Spec PyProof.Rows L2 RZ

/-- what is tracked at the law's entry: the script alone (by its object), or nothing -/
def entryHp (a : Addr) (o : Obj) (xs : List V) (own : Bool) : Hp := fun b => if own = true ∧ b = a then some (.frz o (.lst xs)) else none

theorem law_runs {P : Program} {w : World} {K : PySem.W.Frag} {mg mb : Str → Option Value} {CX : CXT} {k : Nat} {fa a : Addr} {name x : Str} {sp : Sp} {s₁ : Shared} {vs : List Value} {ns : List Int}
    (inK : K.In s₁.heap) (hns : s₁.heap.Ns mainGlobals mg) (hb : s₁.heap.Ns builtinsNs mb) (hbb : ∀ x : Str, x ≠ "__name__" → mb x = bootBuiltins x) (hlim : s₁.heap.NoLimit)
    (hg : s₁.gens = #[]) (ha : s₁.heap.get? a = some { cls := .type "list", data := .seq vs.toArray }) (hi : IntsAre vs ns) (hl : ns.length ≤ sizeLine) (hr : RoomG k callerA)
    (hfa : mg name = some (.ref fa)) (F : ∀ base : Heap, K.In base → base.Ns mainGlobals mg → Ok P w K mg base CX k name [x] sp)
    (hsp : ∀ H : Hp, Only H → ScrL K H a (ns.map V.int) → sp [.ref a] H (fun v _ => v = .bl true) fun _ _ _ => False) (hCX : ∀ H e s', CX [] H s₁ (fun _ _ _ => False) e s' → False) :
    codeAny (model P w) callerA (.call (.ref fa) ⟨[.ref a], []⟩) (fun r s' => r = .ok (.ret (.bool true)) ∧ OldK s₁.heap s'.heap ∧ s'.os = s₁.os ∧ AllBare s'.gens) s₁ := by
  have rv := vals_ints hi
  -- H: the abstract heap at the entry
  have main : ∀ H : Hp, Only H → ScrL K H a (ns.map V.int) → HOk P w H s₁.heap → (∀ b, H b ≠ none → b = a) → (H a ≠ none → K.lookup a = none) →
      codeAny (model P w) callerA (.call (.ref fa) ⟨[.ref a], []⟩) (fun r s' => r = .ok (.ret (.bool true)) ∧ OldK s₁.heap s'.heap ∧ s'.os = s₁.os ∧ AllBare s'.gens) s₁ := by
    intro H only sq hok onlyA apart
    have off : ∀ {b : Addr} {o : Obj}, s₁.heap.get? b = some o → (∀ w n, o.data ≠ .seq w n) → H b = none := by
      intro b o e nd
      cases q : H b with
      | none => rfl
      | some u =>
        obtain rfl := onlyA b (by rw [q]; simp)
        rw [ha] at e
        cases e
        exact absurd rfl (nd _ _)
    have ns' : ∀ {b : Addr} {m : Str → Option Value}, s₁.heap.Ns b m → (hidT s₁.heap H).Ns b m := by
      rintro b m ⟨o, es, ep, e, d, r⟩
      exact ⟨o, es, ep, hidT_get e (off e fun w n z => by rw [d] at z; cases z), d, r⟩
    have kb : K.In (hidT s₁.heap H) := by
      intro b o e
      refine hidT_get (inK b o e) ?_
      cases q : H b with
      | none => rfl
      | some u =>
        have z := onlyA b (by rw [q]; simp)
        rw [z] at q e
        have z2 := apart (by rw [q]; simp)
        rw [z2] at e
        cases e
    have md : Mod K mg (hidT s₁.heap H) := ⟨kb, ns' hns, ⟨mb, ns' hb, hbb⟩, let ⟨mc, h1, h2⟩ := hlim; ⟨mc, ns' h1, h2⟩⟩
    have noF : ∀ b, b ∉ frs [] := fun b z => by cases z
    have e0 : Env0 P w K mg (hidT s₁.heap H) callerA [] s₁ H := ⟨rfl, md, fun b o e => of_hidT e, Nat.le_of_eq (hidT_size _ _), trivial, fun b z => (noF b z).elim, hok, .of_eq hg⟩
    obtain ⟨f, fd, hf, _, hb, G, _⟩ := F _ kb (ns' hns)
    rw [hfa] at hf
    cases hf
    refine codeAny_mono (G.run callerA [] s₁ H ⟨[.ref a], []⟩ [.ref a] [.ref a] _ _ hr e0 (hb s₁ [.ref a] inK rfl) (.cons rfl .nil) (hsp H only sq)) fun r s' h => ?_
    match r, h with
    | .error e, h => exact (hCX H e s' h).elim
    | .ok .next, h => exact h.elim
    | .ok .brk, h => exact h.elim
    | .ok .cont, h => exact h.elim
    | .ok (.ret u), h =>
      obtain ⟨v, H', os, bare, un, hok', rv', q⟩ := h
      obtain rfl : v = .bl true := q
      obtain rfl : u = Value.bool true := rv'
      refine ⟨rfl, OldK.of_keep fun b o e => ?_, os, bare⟩
      cases q : H b with
      | none => exact un.keep b o e q (noF b) (by simp)
      | some t =>
        rcases only b with z | ⟨ob, xs, z⟩
        · rw [q] at z; cases z
        · obtain ⟨e1, _⟩ := hok b _ z
          obtain ⟨e2, _⟩ := hok' b _ (un.frzs b ob _ z)
          rw [e] at e1
          cases e1
          exact e2
  have vsz := hi.length
  cases hk : K.lookup a with
  | some o =>
    have e := inK a o hk
    rw [ha] at e
    cases e
    refine main (fun _ => none) (fun _ => .inl rfl) ⟨vs, rv, by rw [List.length_map]; exact hl, .inr hk⟩ (fun b u z => by cases (show (none : Option HO) = some u from z)) (fun b z => absurd rfl z) fun z => absurd rfl z
  | none =>
    have at_ : entryHp a { cls := .type "list", data := .seq vs.toArray } (ns.map V.int) true a = some (.frz { cls := .type "list", data := .seq vs.toArray } (.lst (ns.map V.int))) := by
      unfold entryHp; simp
    have else_ : ∀ b, b ≠ a → entryHp a { cls := .type "list", data := .seq vs.toArray } (ns.map V.int) true b = none := fun b hb => by
      unfold entryHp; simp [hb]
    refine main (entryHp a { cls := .type "list", data := .seq vs.toArray } (ns.map V.int) true) (fun b => ?_) ⟨vs, rv, by rw [List.length_map]; exact hl, .inl at_⟩ (fun b u z => ?_) (fun b z => ?_) fun _ => hk
    · by_cases hb : b = a
      · subst hb; exact .inr ⟨_, _, at_⟩
      · exact .inl (else_ b hb)
    · by_cases hb : b = a
      · subst hb
        rw [at_] at z
        cases z
        exact ⟨ha, by rw [List.length_map]; exact hl, vs, _, rv, ha⟩
      · rw [else_ b hb] at z; cases z
    · exact Decidable.byContradiction fun hb => z (else_ b hb)

/-- the claim, from the promise of the law's def; the bits of the script's ints are told -/
theorem walkG {l : PySem.W.OpenLaw} {n k : Nat} {q : Program} {loose : List Str} {XP : (Str → Option Value) → Heap → Prop} {YP : World → Heap → Prop} {d : DefRec} {K : Params → PySem.W.Frag} {CX : World → CXT} {sp : World → Sp} {x : Str}
    (hn : l.most = some n) (hn2 : n ≤ sizeLine) (hdf : d.params.defaults = []) (hr : RoomG k callerA) (hY : ∀ (w : World) (h : Heap), YP w h → (K w.params).In h)
    (F : ∀ (w : World) (mg : Str → Option Value) (fa : Addr) (h : Heap), (K w.params).In h → h.Ns mainGlobals mg → mg d.name = some (.ref fa) →
      ∀ base : Heap, (K w.params).In base → base.Ns mainGlobals mg → Ok l.prog w (K w.params) mg base (CX w) k d.name [x] (sp w))
    (hsp : ∀ (w : World) (H : Hp) (a : Addr) (ns : List Int), ns.length ≤ n → (∀ z ∈ ns, Builtin.Int.intBits z ≤ 1048576) → Only H → ScrL (K w.params) H a (ns.map V.int) → sp w [.ref a] H (fun v _ => v = .bl true) fun _ _ _ => False)
    (hCX : ∀ (w : World) (H : Hp) (s : Shared) (e : Value) (s' : Shared), CX w [] H s (fun _ _ _ => False) e s' → False) :
    PySem.W.WalkO q loose XP YP l.row.toRowW d [] (fun f vs => PySem.call f vs) := by
  refine Att.attach_callB hn hdf fun w s₀ s₁ mg mb fa o pm cd doc a vs ns G Y ho hd hcd hmg hobj hints hlen hbits hg => ?_
  have inK := hY w _ Y
  have ok := F w mg fa _ inK G.T.g hmg
  exact law_runs inK G.T.g G.T.b G.T.builtins G.T.nolimit hg hobj hints (Nat.le_trans hlen hn2) hr hmg ok (fun H hO hS => hsp w H a ns hlen hbits hO hS) fun H e s' => hCX w H s₁ e s'
end Hz

/-! Hz, part B: what is known of the heap as a ledger; readings walked from the left. -/
namespace Hz
open PySem PySem.Spec PyProof.Rows L2 RZ
abbrev SS := L2.St
abbrev Lg := List (Addr × HO)
/-- the heap holds the ledger; no address twice -/
structure Led (H : Hp) (L : Lg) : Prop where
  has : ∀ p ∈ L, H p.1 = some p.2
  nd : (L.map (·.1)).Nodup
/-- (a, o) stands in L, R is the rest -/
inductive Pick (a : Addr) (o : HO) : Lg → Lg → Prop where
  | head {R : Lg} : Pick a o ((a, o) :: R) R
  | tail {x : Addr × HO} {L R : Lg} : Pick a o L R → Pick a o (x :: L) (x :: R)
/-- M is part of L -/
inductive Sub : Lg → Lg → Prop where
  | refl {L : Lg} : Sub L L
  | drop {x : Addr × HO} {L M : Lg} : Sub L M → Sub (x :: L) M
  | take {a : Addr} {o : HO} {L R M : Lg} : Pick a o L R → Sub R M → Sub L ((a, o) :: M)
theorem Pick.perm {a : Addr} {o : HO} {L R : Lg} (h : Pick a o L R) : L.Perm ((a, o) :: R) := by
  induction h with
  | head => exact .refl _
  | tail _ ih => exact (ih.cons _).trans (.swap _ _ _)
theorem Led.perm {H : Hp} {L M : Lg} (l : Led H L) (p : L.Perm M) : Led H M :=
  ⟨fun x hx => l.has x (p.mem_iff.mpr hx), (p.map (·.1)).nodup_iff.mp l.nd⟩
theorem Led.pick {H : Hp} {a : Addr} {o : HO} {L R : Lg} (l : Led H L) (p : Pick a o L R) : Led H ((a, o) :: R) := l.perm p.perm
theorem Led.get {H : Hp} {a : Addr} {o : HO} {L R : Lg} (l : Led H L) (p : Pick a o L R) : H a = some o := (l.pick p).has (a, o) (.head _)
theorem Led.tail {H : Hp} {x : Addr × HO} {L : Lg} (l : Led H (x :: L)) : Led H L :=
  ⟨fun p hp => l.has p (.tail _ hp), (List.nodup_cons.mp l.nd).2⟩
theorem Led.put {H : Hp} {a : Addr} {o o' : HO} {R : Lg} (l : Led H ((a, o) :: R)) : Led (upd H a o') ((a, o') :: R) := by
  have n := (List.nodup_cons.mp l.nd).1
  refine ⟨fun p hp => ?_, l.nd⟩
  rcases List.mem_cons.mp hp with rfl | hp
  · exact upd_same
  · rw [upd_ne (fun e => n (List.mem_map.mpr ⟨p, hp, e⟩))]
    exact l.has p (.tail _ hp)
theorem Led.new {H : Hp} {p : Addr} {o : HO} {L : Lg} (l : Led H L) (h : H p = none) : Led (upd H p o) ((p, o) :: L) := by
  have ne : ∀ q ∈ L, q.1 ≠ p := fun q hq e => by
    have z := l.has q hq
    rw [e, h] at z
    cases z
  refine ⟨fun q hq => ?_, List.nodup_cons.mpr ⟨fun hm => ?_, l.nd⟩⟩
  · rcases List.mem_cons.mp hq with rfl | hq
    · exact upd_same
    · rw [upd_ne (ne q hq)]
      exact l.has q hq
  · obtain ⟨q, hq, e⟩ := List.mem_map.mp hm
    exact ne q hq e
theorem Led.cons {H : Hp} {a : Addr} {o : HO} {R M : Lg} (l : Led H ((a, o) :: R)) (s : ∀ x ∈ M.map (·.1), x ∈ R.map (·.1)) (m : Led H M) : Led H ((a, o) :: M) :=
  ⟨fun p hp => (List.mem_cons.mp hp).elim (fun e => by rw [e]; exact l.has _ (.head _)) (m.has p), List.nodup_cons.mpr ⟨fun h => (List.nodup_cons.mp l.nd).1 (s _ h), m.nd⟩⟩
theorem Sub.mem {L M : Lg} (s : Sub L M) : ∀ x ∈ M, x ∈ L := by
  induction s with
  | refl => exact fun _ h => h
  | drop _ ih => exact fun x h => .tail _ (ih x h)
  | take p _ ih =>
    intro x h
    rcases List.mem_cons.mp h with rfl | h
    · exact p.perm.mem_iff.mpr (.head _)
    · exact p.perm.mem_iff.mpr (.tail _ (ih x h))
theorem Led.sub {H : Hp} {L M : Lg} (l : Led H L) (s : Sub L M) : Led H M := by
  induction s with
  | refl => exact l
  | drop _ ih => exact ih l.tail
  | take p s ih =>
    refine (l.pick p).cons (fun x hx => ?_) (ih (l.pick p).tail)
    obtain ⟨q, hq, e⟩ := List.mem_map.mp hx
    exact List.mem_map.mpr ⟨q, s.mem q hq, e⟩
theorem Led.nil {H : Hp} : Led H [] := ⟨fun _ h => (nomatch h), List.nodup_nil⟩

/-- from every heap that holds L -/
def Tr (L : Lg) (G : Hp → Prop) : Prop := ∀ H, Led H L → G H
theorem Tr.of {L : Lg} {G : Hp → Prop} {H : Hp} (t : Tr L G) (l : Led H L) : G H := t H l
theorem Tr.sub {L M : Lg} {G : Hp → Prop} (t : Tr M G) (s : Sub L M) : Tr L G := fun H l => t H (l.sub s)
theorem Tr.pick {a : Addr} {o : HO} {L R : Lg} {G : Hp → Prop} (p : Pick a o L R) (t : Tr ((a, o) :: R) G) : Tr L G := fun H l => t H (l.pick p)

/-- the slot i of σ becomes x -/
inductive SetAt : SS → Nat → Option V → SS → Prop where
  | zero {x y : Option V} {r : SS} : SetAt (y :: r) 0 x (x :: r)
  | succ {i : Nat} {x y : Option V} {r r' : SS} : SetAt r i x r' → SetAt (y :: r) (i + 1) x (y :: r')
theorem SetAt.eq {σ σ' : SS} {i : Nat} {x : Option V} (h : SetAt σ i x σ') : σ.set i x = σ' := by
  induction h with
  | zero => rfl
  | succ _ ih => rw [List.set_cons_succ, ih]

/-- None -/
def isNon : V → Bool
  | .non => true
  | _ => false
theorem isNon_dec (x : V) : decide (x = .non) = isNon x := by cases x <;> first | rfl | exact decide_eq_false (fun h => nomatch h)
section
variable {L R : Lg} {σ σ' : SS} {Q : VK} {QB : Bool → Hp → Prop} {QA : List V → Hp → Prop} {G : Hp → Prop} {K : PySem.W.Frag} {ta tb tc te tl : TE} {t u : TT} {tr : TA} {v x y : V} {i : Nat} {a p : Addr} {xs : List V}
/-! ### expressions -/
theorem t_var (h : σ[i]? = some (some v)) (k : Tr L fun H => Q v H) : Tr L fun H => tVar i σ H Q := fun H l => ⟨v, h, k H l⟩
theorem t_c (k : Tr L fun H => Q v H) : Tr L fun H => tC v σ H Q := k
theorem t_op {r : R2} (k : Tr L fun H => ta σ H fun x H1 => tb σ H1 fun y H2 => r x y H2 Q) : Tr L fun H => tOp r ta tb σ H Q := k
theorem t_un {r : V → Hp → VK → Prop} (k : Tr L fun H => ta σ H fun x H1 => r x H1 Q) : Tr L fun H => tUn r ta σ H Q := k
theorem t_rI {C : Int → Int → Prop} {g : Int → Int → V} {m n : Int} (hc : C m n) (k : Tr L fun H => Q (g m n) H) : Tr L fun H => rI C g (.int m) (.int n) H Q := fun H l => ⟨m, n, rfl, rfl, hc, k H l⟩
theorem t_rI0 {g : Int → Int → V} {m n : Int} (k : Tr L fun H => Q (g m n) H) : Tr L fun H => rI0 g (.int m) (.int n) H Q := fun H l => ⟨m, n, rfl, rfl, k H l⟩
theorem t_rU {g : Int → V} {m : Int} (k : Tr L fun H => Q (g m) H) : Tr L fun H => rU g (.int m) H Q := fun H l => ⟨m, rfl, k H l⟩
theorem dec_int (m n : Int) : decide (V.int m = V.int n) = decide (m = n) := by simp
theorem dec_bl (m n : Bool) : decide (V.bl m = V.bl n) = (m == n) := by cases m <;> cases n <;> rfl
theorem dec_str (m n : Str) : decide (V.str m = V.str n) = decide (m = n) := by simp
theorem t_eqI {m n : Int} (k : Tr L fun H => Q (.bl (decide (m = n))) H) : Tr L fun H => rEq (.int m) (.int n) H Q := fun H l => ⟨rfl, by rw [dec_int]; exact k H l⟩
theorem t_eqB {m n : Bool} (k : Tr L fun H => Q (.bl (m == n)) H) : Tr L fun H => rEq (.bl m) (.bl n) H Q := fun H l => ⟨rfl, by rw [dec_bl]; exact k H l⟩
theorem t_eqS {m n : Str} (k : Tr L fun H => Q (.bl (decide (m = n))) H) : Tr L fun H => rEq (.str m) (.str n) H Q := fun H l => ⟨rfl, by rw [dec_str]; exact k H l⟩
theorem t_eq (hs : scal x y = true) (k : Tr L fun H => Q (.bl (decide (x = y))) H) : Tr L fun H => rEq x y H Q := fun H l => ⟨hs, k H l⟩
theorem t_neI {m n : Int} (k : Tr L fun H => Q (.bl (!decide (m = n))) H) : Tr L fun H => rNe (.int m) (.int n) H Q := fun H l => ⟨rfl, by rw [dec_int]; exact k H l⟩
theorem t_neB {m n : Bool} (k : Tr L fun H => Q (.bl (!(m == n))) H) : Tr L fun H => rNe (.bl m) (.bl n) H Q := fun H l => ⟨rfl, by rw [dec_bl]; exact k H l⟩
theorem t_neS {m n : Str} (k : Tr L fun H => Q (.bl (!decide (m = n))) H) : Tr L fun H => rNe (.str m) (.str n) H Q := fun H l => ⟨rfl, by rw [dec_str]; exact k H l⟩
theorem t_ne (hs : scal x y = true) (k : Tr L fun H => Q (.bl (!decide (x = y))) H) : Tr L fun H => rNe x y H Q := fun H l => ⟨hs, k H l⟩
theorem t_isN (k : Tr L fun H => Q (.bl (isNon x)) H) : Tr L fun H => rIsN x .non H Q := fun H l => ⟨rfl, by rw [isNon_dec]; exact k H l⟩
theorem t_notN (k : Tr L fun H => Q (.bl (!isNon x)) H) : Tr L fun H => rNotN x .non H Q := fun H l => ⟨rfl, by rw [isNon_dec]; exact k H l⟩
/-- a chain a < b < c -/
theorem t_chain {r r' : R2} (k : Tr L fun H => ta σ H fun x H1 => tb σ H1 fun y H2 => r x y H2 fun z H3 => ∃ k, z = .bl k ∧ (if k = true then tc σ H3 fun w' H4 => r' y w' H4 Q else Q (.bl false) H3)) : Tr L fun H => tChain r r' ta tb tc σ H Q := k
/-! ### tests -/
theorem t_test (k : Tr L fun H => te σ H fun x H1 => ∃ c, x = .bl c ∧ QB c H1) : Tr L fun H => tTest te σ H QB := k
theorem t_B (k : Tr L fun H => te σ H fun x H1 => ∃ c, x = .bl c ∧ QB c H1) : Tr L fun H => tB te σ H QB := k
theorem t_bl {b : Bool} {G : Bool → Hp → Prop} (k : Tr L fun H => G b H) : Tr L fun H => ∃ c, V.bl b = .bl c ∧ G c H := fun H l => ⟨b, rfl, k H l⟩
theorem t_and (k : Tr L fun H => t σ H fun c H1 => if c = true then u σ H1 QB else QB false H1) : Tr L fun H => tAnd t u σ H QB := k
theorem t_or (k : Tr L fun H => t σ H fun c H1 => if c = true then QB true H1 else u σ H1 QB) : Tr L fun H => tOr t u σ H QB := k
theorem t_not (k : Tr L fun H => t σ H fun c H1 => QB (!c) H1) : Tr L fun H => tNot t σ H QB := k
theorem t_andV (k : Tr L fun H => ta σ H fun x H1 => ∃ c, x = .bl c ∧ if c = true then tb σ H1 Q else Q (.bl false) H1) : Tr L fun H => tAndV ta tb σ H Q := k
theorem t_orV (k : Tr L fun H => ta σ H fun x H1 => ∃ c, x = .bl c ∧ if c = true then Q (.bl true) H1 else tb σ H1 Q) : Tr L fun H => tOrV ta tb σ H Q := k
theorem t_notV (k : Tr L fun H => ta σ H fun x H1 => ∃ c, x = .bl c ∧ Q (.bl (!c)) H1) : Tr L fun H => tNotV ta σ H Q := k
theorem t_ifE (k : Tr L fun H => t σ H fun c H1 => if c = true then ta σ H1 Q else tb σ H1 Q) : Tr L fun H => tIf t ta tb σ H Q := k
theorem t_ite {b : Bool} {G1 G2 : Hp → Prop} (h1 : b = true → Tr L G1) (h2 : b = false → Tr L G2) : Tr L fun H => if b = true then G1 H else G2 H := fun H l => by
  cases b with
  | true => rw [if_pos rfl]; exact h1 rfl H l
  | false => rw [if_neg Bool.false_ne_true]; exact h2 rfl H l
theorem t_iteD {c : Prop} [Decidable c] {G1 G2 : Hp → Prop} (h1 : c → Tr L G1) (h2 : ¬ c → Tr L G2) : Tr L fun H => if decide c = true then G1 H else G2 H :=
  t_ite (fun h => h1 (of_decide_eq_true h)) fun h => h2 (of_decide_eq_false h)
theorem t_iteND {c : Prop} [Decidable c] {G1 G2 : Hp → Prop} (h1 : ¬ c → Tr L G1) (h2 : c → Tr L G2) : Tr L fun H => if (!decide c) = true then G1 H else G2 H :=
  t_ite (fun h => h1 (by simpa using h)) fun h => h2 (by simpa using h)
theorem t_iteT {G1 G2 : Hp → Prop} (k : Tr L G1) : Tr L fun H => if true = true then G1 H else G2 H := fun H l => iteT (k H l)
theorem t_iteF {G1 G2 : Hp → Prop} (k : Tr L G2) : Tr L fun H => if false = true then G1 H else G2 H := fun H l => iteF (k H l)
theorem t_ifT {b : Bool} {G1 G2 : Hp → Prop} (h : b = true) (k : Tr L G1) : Tr L fun H => if b = true then G1 H else G2 H := t_ite (fun _ => k) fun h2 => absurd (h.symm.trans h2) (by decide)
theorem t_ifF {b : Bool} {G1 G2 : Hp → Prop} (h : b = false) (k : Tr L G2) : Tr L fun H => if b = true then G1 H else G2 H := t_ite (fun h2 => absurd (h2.symm.trans h) (by decide)) fun _ => k
/-! ### displays, arguments -/
theorem t_nil (k : Tr L fun H => QA [] H) : Tr L fun H => tNil σ H QA := k
theorem t_cons (k : Tr L fun H => ta σ H fun x H1 => tr σ H1 fun xs H2 => QA (x :: xs) H2) : Tr L fun H => tCons ta tr σ H QA := k
def newL (xs : List V) (H : Hp) (Q : VK) : Prop := xs.length ≤ sizeLine ∧ ∀ p, H p = none → Q (.ref p) (upd H p (.lst xs))
def newT (xs : List V) (H : Hp) (Q : VK) : Prop := xs.length ≤ sizeLine ∧ ∀ p, H p = none → Q (.ref p) (upd H p (.tup xs))
theorem t_lst (k : Tr L fun H => tr σ H fun xs H1 => newL xs H1 Q) : Tr L fun H => tLst tr σ H Q := k
theorem t_tup (k : Tr L fun H => tr σ H fun xs H1 => newT xs H1 Q) : Tr L fun H => tTup tr σ H Q := k
theorem t_newL (hz : xs.length ≤ sizeLine) (k : ∀ p, Tr ((p, .lst xs) :: L) fun H => Q (.ref p) H) : Tr L fun H => newL xs H Q := fun H l => ⟨hz, fun p hp => k p _ (l.new hp)⟩
theorem t_newT (hz : xs.length ≤ sizeLine) (k : ∀ p, Tr ((p, .tup xs) :: L) fun H => Q (.ref p) H) : Tr L fun H => newT xs H Q := fun H l => ⟨hz, fun p hp => k p _ (l.new hp)⟩
/-! ### calls -/
theorem t_callS {sp : Sp} {E : SS → XK} (k : Tr L fun H => tr σ H fun vs H1 => sp vs H1 Q (E σ)) : Tr L fun H => tCallS sp E tr σ H Q := k
theorem t_CB {r : List V → Hp → VK → Prop} (k : Tr L fun H => tr σ H fun vs H1 => r vs H1 Q) : Tr L fun H => tCB r tr σ H Q := k
theorem t_BM0 {T : String} {r : V → List V → Hp → VK → Prop} (k : Tr L fun H => te σ H fun x H1 => tyV K T x H1 ∧ r x [] H1 Q) : Tr L fun H => tBM0 K T r te σ H Q := k
theorem t_BM {T : String} {r : V → List V → Hp → VK → Prop} (k : Tr L fun H => te σ H fun x H1 => tyV K T x H1 ∧ tr σ H1 fun xs H2 => r x xs H2 Q) : Tr L fun H => tBM K T r te tr σ H Q := k
theorem t_tyL (hp : Pick p (.lst xs) L R) (k : Tr L G) : Tr L fun H => tyV K "list" (.ref p) H ∧ G H := fun H l => ⟨.inl ⟨rfl, xs, .inl (.inl (l.get hp))⟩, k H l⟩
theorem t_tyS {z : Str} (k : Tr L G) : Tr L fun H => tyV K "str" (.str z) H ∧ G H := fun H l => ⟨rfl, k H l⟩
theorem t_append (hp : Pick p (.lst xs) L R) (hz : xs.length < sizeLine) (k : Tr ((p, .lst (xs ++ [y])) :: R) fun H => Q .non H) : Tr L fun H => rAppend (.ref p) [y] H Q :=
  fun H l => ⟨p, xs, y, rfl, rfl, l.get hp, hz, k _ (l.pick hp).put⟩
theorem t_popM (hp : Pick p (.lst xs) L R) (hy : xs[xs.length - 1]? = some y) (k : Tr ((p, .lst xs.dropLast) :: R) fun H => Q y H) : Tr L fun H => rPop (.ref p) [] H Q :=
  fun H l => ⟨p, xs, y, rfl, rfl, l.get hp, hy, k _ (l.pick hp).put⟩
theorem t_reverse (hp : Pick p (.lst xs) L R) (k : Tr ((p, .lst xs.reverse) :: R) fun H => Q .non H) : Tr L fun H => rReverse (.ref p) [] H Q :=
  fun H l => ⟨p, xs, rfl, rfl, l.get hp, k _ (l.pick hp).put⟩
theorem t_clear (hp : Pick p (.lst xs) L R) (k : Tr ((p, .lst []) :: R) fun H => Q .non H) : Tr L fun H => rClear (.ref p) [] H Q :=
  fun H l => ⟨p, xs, rfl, rfl, l.get hp, k _ (l.pick hp).put⟩
/-! ### subscripts, slices -/
theorem sqL (hp : Pick p (.lst xs) L R) {H : Hp} (l : Led H L) : SqL K H p xs := .inl (.inl (l.get hp))
theorem sqT (hp : Pick p (.tup xs) L R) {H : Hp} (l : Led H L) : SqT K H p xs := .inl (.inl (l.get hp))
theorem t_ixL {m : Int} (hp : Pick p (.lst xs) L R) (ha : atI xs m = some v) (k : Tr L fun H => Q v H) : Tr L fun H => rIxL K (.ref p) (.int m) H Q := fun H l => ⟨p, xs, m, v, rfl, rfl, sqL hp l, ha, k H l⟩
theorem t_ixT {m : Int} (hp : Pick p (.tup xs) L R) (ha : atI xs m = some v) (k : Tr L fun H => Q v H) : Tr L fun H => rIxT K (.ref p) (.int m) H Q := fun H l => ⟨p, xs, m, v, rfl, rfl, sqT hp l, ha, k H l⟩
theorem t_ixS {z : Str} {m : Int} {c : Nat} (hz : z.length ≤ sizeLine) (ha : atI z.cps.toList m = some c) (k : Tr L fun H => Q (.str ⟨#[c]⟩) H) : Tr L fun H => rIxS (.str z) (.int m) H Q := fun H l => ⟨z, m, c, rfl, rfl, hz, ha, k H l⟩
theorem t_slice {r : V → Option Int → Option Int → Hp → VK → Prop} {lo hi : TO} (k : Tr L fun H => te σ H fun x H1 => lo σ H1 fun l H2 => hi σ H2 fun u H3 => r x l u H3 Q) : Tr L fun H => tSl r te lo hi σ H Q := k
theorem t_noPart {QO : Option Int → Hp → Prop} (k : Tr L fun H => QO none H) : Tr L fun H => tNoPart σ H QO := k
theorem t_part {QO : Option Int → Hp → Prop} (k : Tr L fun H => te σ H fun x H1 => ∃ i, x = .int i ∧ QO (some i) H1) : Tr L fun H => tPart te σ H QO := k
theorem t_int {m : Int} {G : Int → Hp → Prop} (k : Tr L fun H => G m H) : Tr L fun H => ∃ i, V.int m = .int i ∧ G i H := fun H l => ⟨m, rfl, k H l⟩
theorem t_slL {lo hi : Option Int} (hp : Pick a (.lst xs) L R) (k : ∀ p, Tr ((p, .lst (cutV xs lo hi)) :: L) fun H => Q (.ref p) H) : Tr L fun H => rSlL K (.ref a) lo hi H Q := fun H l => ⟨a, xs, rfl, sqL hp l, fun p hp' => k p _ (l.new hp')⟩
theorem t_cat {ys : List V} {R' : Lg} {b : Addr} (hp : Pick a (.lst xs) L R) (hq : Pick b (.lst ys) L R') (hz : xs.length + ys.length ≤ sizeLine) (k : ∀ p, Tr ((p, .lst (xs ++ ys)) :: L) fun H => Q (.ref p) H) :
    Tr L fun H => rCat (.ref a) (.ref b) H Q := fun H l => ⟨a, b, xs, ys, rfl, rfl, l.get hp, l.get hq, hz, fun p hp' => k p _ (l.new hp')⟩
theorem t_rep {m : Int} (hp : Pick a (.lst xs) L R) (h1 : -(2 ^ 63) ≤ m) (h2 : m < 2 ^ 63) (hz : xs.length * m.toNat ≤ sizeLine) (k : ∀ p, Tr ((p, .lst (List.replicate m.toNat xs).flatten) :: L) fun H => Q (.ref p) H) :
    Tr L fun H => rRep (.ref a) (.int m) H Q := fun H l => ⟨a, m, xs, rfl, rfl, l.get hp, h1, h2, hz, fun p hp' => k p _ (l.new hp')⟩
/-! ### statements -/
variable {D : Ends} {s1 s2 : TS} {g : TG}
theorem t_seq (k : Tr L fun H => s1 { D with nx := s2 D } σ H) : Tr L fun H => tSeq s1 s2 D σ H := k
theorem t_next (k : Tr L fun H => D.nx σ H) : Tr L fun H => tNext D σ H := k
theorem t_brk (k : Tr L fun H => D.bk σ H) : Tr L fun H => tBreak D σ H := k
theorem t_cnt (k : Tr L fun H => D.ct σ H) : Tr L fun H => tCont D σ H := k
theorem t_asg (k : Tr L fun H => te σ H fun x H1 => g x σ H1 D.nx) : Tr L fun H => tAsg te g D σ H := k
theorem t_name {Qn : SS → Hp → Prop} (hs : SetAt σ i (some v) σ') (k : Tr L fun H => Qn σ' H) : Tr L fun H => gName i v σ H Qn := fun H l => by
  show Qn (σ.set i (some v)) H
  rw [hs.eq]; exact k H l
theorem t_aug {ti : TIp} (h : σ[i]? = some (some x)) (k : Tr L fun H => te σ H fun y H1 => ti x y H1 fun z H2 => gName i z σ H2 D.nx) : Tr L fun H => tAug i te ti D σ H := fun H l => ⟨x, h, k H l⟩
theorem t_ipI {f : Int → Int → Int} {m n : Int} (k : Tr L fun H => Q (.int (f m n)) H) : Tr L fun H => ipI f (.int m) (.int n) H Q := fun H l => ⟨m, n, rfl, rfl, k H l⟩
theorem t_par {j : Nat} (k : Tr L fun H => tr σ H fun vs H1 => ∃ v w, vs = [v, w] ∧ gName i v σ H1 fun σ3 H3 => gName j w σ3 H3 D.nx) : Tr L fun H => tPar i j tr D σ H := k
theorem t_two {w : V} {G : V → V → Hp → Prop} (k : Tr L fun H => G v w H) : Tr L fun H => ∃ x y, [v, w] = [x, y] ∧ G x y H := fun H l => ⟨v, w, rfl, k H l⟩
theorem t_drop (k : Tr L fun H => te σ H fun _ H1 => D.nx σ H1) : Tr L fun H => tDrop te D σ H := k
theorem t_ret (k : Tr L fun H => te σ H D.rt) : Tr L fun H => tRet te D σ H := k
theorem t_retN (k : Tr L fun H => D.rt .non H) : Tr L fun H => tRetN D σ H := k
theorem t_if (k : Tr L fun H => t σ H fun b H1 => if b = true then s1 D σ H1 else s2 D σ H1) : Tr L fun H => tIfS t s1 s2 D σ H := k
theorem t_sub {to ti : TE} {ts : TSet} {Qn : SS → Hp → Prop} (k : Tr L fun H => to σ H fun o H1 => ti σ H1 fun i H2 => ts o i v H2 fun H3 => Qn σ H3) : Tr L fun H => gSub to ti ts v σ H Qn := k
theorem t_setL {m : Int} {j : Nat} (hp : Pick p (.lst xs) L R) (hj : ixN xs.length m = some j) (k : Tr ((p, .lst (xs.set j v)) :: R) G) : Tr L fun H => rSetL (.ref p) (.int m) v H G :=
  fun H l => ⟨p, xs, m, j, rfl, rfl, l.get hp, hj, k _ (l.pick hp).put⟩
theorem t_tupG {n : Nat} {gs : TGs} {Qn : SS → Hp → Prop} (hp : Pick a (.tup xs) L R) (hn : xs.length = n) (k : Tr L fun H => gs xs σ H Qn) : Tr L fun H => gTup K n gs (.ref a) σ H Qn := fun H l => ⟨a, xs, rfl, sqT hp l, hn, k H l⟩
theorem t_consG {gs : TGs} {Qn : SS → Hp → Prop} (k : Tr L fun H => g v σ H fun σ1 H1 => gs xs σ1 H1 Qn) : Tr L fun H => gCons g gs (v :: xs) σ H Qn := fun H l => ⟨v, xs, rfl, k H l⟩
theorem t_nilG {Qn : SS → Hp → Prop} (k : Tr L fun H => Qn σ H) : Tr L fun H => gNil [] σ H Qn := fun H l => ⟨rfl, k H l⟩
/-! ### where one goes on -/
theorem t_nx {f b c : SS → Hp → Prop} {r : VK} (k : Tr L fun H => f σ H) : Tr L fun H => (Ends.mk f r b c).nx σ H := k
theorem t_rt {f b c : SS → Hp → Prop} {r : VK} (k : Tr L fun H => r v H) : Tr L fun H => (Ends.mk f r b c).rt v H := k
theorem t_bk {f b c : SS → Hp → Prop} {r : VK} (k : Tr L fun H => b σ H) : Tr L fun H => (Ends.mk f r b c).bk σ H := k
theorem t_ct {f b c : SS → Hp → Prop} {r : VK} (k : Tr L fun H => c σ H) : Tr L fun H => (Ends.mk f r b c).ct σ H := k
end

/-! ### what is walked -/
/-- n turns; at turn i the value v with val i v L', L' what is made for it -/
structure Wk (J : It) (n : Nat) (val : Nat → V → Lg → Prop) (Src : Lg → Prop) : Prop where
  go : ∀ L H i, Src L → Led H L → i < n → J.go i H
  yld : ∀ L H i v H', Src L → Led H L → i < n → J.yld i H v H' → ∃ L', val i v L' ∧ Led H' (L' ++ L)
  stop : ∀ L H, Src L → Led H L → J.stop n H
section
variable {K : PySem.W.Frag}
/-- the ledger reads a as the list xs -/
def InL (a : Addr) (xs : List V) (L : Lg) : Prop := ∃ R, Pick a (.lst xs) L R
theorem InL.sq {a : Addr} {xs : List V} {L : Lg} {H : Hp} (h : InL a xs L) (l : Led H L) : SqL K H a xs := let ⟨_, p⟩ := h; sqL p l
theorem led_sq_inj {H : Hp} {a : Addr} {xs ys : List V} (h : H a = some (.lst xs)) (h' : SqL K H a ys) (hk : K.lookup a = none) : ys = xs := by
  rcases h' with (h' | ⟨o, h'⟩) | ⟨o, its, n, hl, _⟩
  · rw [h] at h'; cases h'; rfl
  · rw [h] at h'; cases h'
  · rw [hk] at hl; cases hl
theorem wk_list {a : Addr} {xs : List V} : Wk (Itl K a) xs.length (fun i v L' => xs[i]? = some v ∧ L' = []) (InL a xs) where
  go := fun L H i hs l hi => ⟨xs, xs[i], hs.sq l, by simp [hi]⟩
  yld := fun L H i v H' hs l hi hy => ⟨[], ⟨hy.2 xs (hs.sq l), rfl⟩, by rw [hy.1]; exact l⟩
  stop := fun L H hs l => ⟨xs, hs.sq l, Nat.le_refl _⟩
def InT (a : Addr) (xs : List V) (L : Lg) : Prop := ∃ R, Pick a (.tup xs) L R
theorem InT.sq {a : Addr} {xs : List V} {L : Lg} {H : Hp} (h : InT a xs L) (l : Led H L) : SqT K H a xs := let ⟨_, p⟩ := h; sqT p l
theorem wk_tup {a : Addr} {xs : List V} : Wk (Itt K a) xs.length (fun i v L' => xs[i]? = some v ∧ L' = []) (InT a xs) where
  go := fun L H i hs l hi => ⟨xs, xs[i], hs.sq l, by simp [hi]⟩
  yld := fun L H i v H' hs l hi hy => ⟨[], ⟨hy.2 xs (hs.sq l), rfl⟩, by rw [hy.1]; exact l⟩
  stop := fun L H hs l => ⟨xs, hs.sq l, Nat.le_refl _⟩
theorem wk_range {lo : Int} {n : Nat} : Wk (Itr lo n) n (fun i v L' => v = .int (lo + i) ∧ L' = []) (fun _ => True) where
  go := fun L H i _ _ hi => hi
  yld := fun L H i v H' _ l hi hy => ⟨[], ⟨hy.2, rfl⟩, by rw [hy.1]; exact l⟩
  stop := fun L H _ _ => Nat.le_refl n
theorem wk_range3 {lo c : Int} {n : Nat} : Wk (Itc lo c n) n (fun i v L' => v = .int (lo + i * c) ∧ L' = []) (fun _ => True) where
  go := fun L H i _ _ hi => hi
  yld := fun L H i v H' _ l hi hy => ⟨[], ⟨hy.2, rfl⟩, by rw [hy.1]; exact l⟩
  stop := fun L H _ _ => Nat.le_refl n
theorem wk_str {z : Str} : Wk (Its z) z.cps.size (fun i v L' => (∃ c, z.cps[i]? = some c ∧ v = .str ⟨#[c]⟩) ∧ L' = []) (fun _ => True) where
  go := fun L H i _ _ hi => hi
  yld := fun L H i v H' _ l hi hy => ⟨[], ⟨hy.2, rfl⟩, by rw [hy.1]; exact l⟩
  stop := fun L H _ _ => Nat.le_refl _
theorem wk_enum {a : Addr} {xs : List V} : Wk (Ite K a) xs.length (fun i v L' => ∃ T x, v = .ref T ∧ xs[i]? = some x ∧ L' = [(T, .tup [.int (i : Nat), x])]) (InL a xs) where
  go := fun L H i hs l hi => ⟨xs, xs[i], hs.sq l, by simp [hi]⟩
  yld := fun L H i v H' hs l hi hy => by
    obtain ⟨T, x, e, n, eH, q⟩ := hy
    exact ⟨_, ⟨T, x, e, q xs (hs.sq l), rfl⟩, by rw [eH]; exact l.new n⟩
  stop := fun L H hs l => ⟨xs, hs.sq l, Nat.le_refl _⟩
theorem wk_zip {a b : Addr} {xs ys : List V} : Wk (Itz K a b) (min xs.length ys.length) (fun i v L' => ∃ T x y, v = .ref T ∧ xs[i]? = some x ∧ ys[i]? = some y ∧ L' = [(T, .tup [x, y])]) (fun L => InL a xs L ∧ InL b ys L) where
  go := fun L H i hs l hi => by
    have h1 : i < xs.length := by omega
    have h2 : i < ys.length := by omega
    exact ⟨xs, ys, xs[i], ys[i], hs.1.sq l, hs.2.sq l, by simp [h1], by simp [h2]⟩
  yld := fun L H i v H' hs l hi hy => by
    obtain ⟨T, x, y, e, n, eH, q1, q2⟩ := hy
    exact ⟨_, ⟨T, x, y, e, q1 xs (hs.1.sq l), q2 ys (hs.2.sq l), rfl⟩, by rw [eH]; exact l.new n⟩
  stop := fun L H hs l => ⟨xs, ys, hs.1.sq l, hs.2.sq l, by omega⟩
end

section
variable {K : PySem.W.Frag}
theorem wk_zipT {a b : Addr} {xs ys : List V} : Wk (ItzT K a b) (min xs.length ys.length) (fun i v L' => ∃ T x y, v = .ref T ∧ xs[i]? = some x ∧ ys[i]? = some y ∧ L' = [(T, .tup [x, y])]) (fun L => InT a xs L ∧ InT b ys L) where
  go := fun L H i hs l hi => by
    have h1 : i < xs.length := by omega
    have h2 : i < ys.length := by omega
    exact ⟨xs, ys, xs[i], ys[i], hs.1.sq l, hs.2.sq l, by simp [h1], by simp [h2]⟩
  yld := fun L H i v H' hs l hi hy => by
    obtain ⟨T, x, y, e, n, eH, q1, q2⟩ := hy
    exact ⟨_, ⟨T, x, y, e, q1 xs (hs.1.sq l), q2 ys (hs.2.sq l), rfl⟩, by rw [eH]; exact l.new n⟩
  stop := fun L H hs l => ⟨xs, ys, hs.1.sq l, hs.2.sq l, by omega⟩
end
/-! ### for -/
section
variable {L : Lg} {σ : SS} {K : PySem.W.Frag} {te : TE} {tr : TA} {wi : TI} {g : TG} {tb : TS} {D : Ends}
def forK (g : TG) (tb : TS) (D : Ends) (σ : SS) (J : It) (H1 : Hp) : Prop := ∃ W : Nat → Nat → SS → Hp → Prop, (∃ m, W 0 m σ H1) ∧ ∀ i m σ H, W i m σ H →
  (J.stop i H ∧ D.nx σ H) ∨ (J.go i H ∧ ∃ N : SS → Hp → Prop, (∀ σ' H', N σ' H' → ∃ m', m' < m ∧ W (i + 1) m' σ' H') ∧ ∀ x H', J.yld i H x H' → g x σ H' fun σ2 H2 => tb { D with nx := N, ct := N, bk := D.nx } σ2 H2)
theorem t_for (k : Tr L fun H => wi σ H (forK g tb D σ)) : Tr L fun H => tFor wi g tb D σ H := k
/-- the state at a turn's end -/
def Pst {α : Type} (S : Nat → α → SS) (M : Nat → α → Lg) (I : Nat → α → Prop) (i : Nat) (σ : SS) (H : Hp) : Prop := ∃ y, I i y ∧ σ = S i y ∧ Led H (M i y)
theorem t_pst {α : Type} {S : Nat → α → SS} {M : Nat → α → Lg} {I : Nat → α → Prop} {i : Nat} (y : α) (hI : I i y) (hσ : σ = S i y) (hM : Sub L (M i y)) : Tr L fun H => Pst S M I i σ H := fun H l => ⟨y, hI, hσ, l.sub hM⟩
theorem t_forK {α : Type} {J : It} {n : Nat} {val : Nat → V → Lg → Prop} {Src : Lg → Prop} (wk : Wk J n val Src) (S : Nat → α → SS) (M : Nat → α → Lg) (I : Nat → α → Prop)
    (h0 : ∃ y, I 0 y ∧ σ = S 0 y ∧ Sub L (M 0 y)) (hsrc : ∀ i y, I i y → Src (M i y))
    (hs : ∀ i y v L', i < n → I i y → val i v L' → Tr (L' ++ M i y) fun H => g v (S i y) H fun σ2 H2 => tb { D with nx := Pst S M I (i + 1), ct := Pst S M I (i + 1), bk := D.nx } σ2 H2)
    (hd : ∀ y, I n y → Tr (M n y) fun H => D.nx (S n y) H) : Tr L fun H => forK g tb D σ J H := by
  intro H l
  obtain ⟨y0, i0, e0, s0⟩ := h0
  refine ⟨fun i m σ' H' => m = n - i ∧ i ≤ n ∧ Pst S M I i σ' H', ⟨n, by simp, Nat.zero_le _, y0, i0, e0, l.sub s0⟩, ?_⟩
  rintro i m σ' H' ⟨rfl, hi, y, iy, rfl, ly⟩
  by_cases h : i < n
  · refine .inr ⟨wk.go _ _ i (hsrc i y iy) ly h, Pst S M I (i + 1), fun σ2 H2 p => ⟨n - (i + 1), by omega, rfl, h, p⟩, fun v H2 yl => ?_⟩
    obtain ⟨L', hv, l'⟩ := wk.yld _ _ i v H2 (hsrc i y iy) ly h yl
    exact hs i y v L' h iy hv H2 l'
  · obtain rfl : i = n := by omega
    exact .inl ⟨wk.stop _ _ (hsrc i y iy) ly, hd y iy H' ly⟩
/-- the walked things -/
def itL (K : PySem.W.Frag) (x : V) (H : Hp) (R : It → Hp → Prop) : Prop := ∃ a, x = .ref a ∧ (∃ xs, SqL K H a xs) ∧ R (Itl K a) H
def itT (K : PySem.W.Frag) (x : V) (H : Hp) (R : It → Hp → Prop) : Prop := ∃ a, x = .ref a ∧ (∃ xs, SqT K H a xs) ∧ R (Itt K a) H
def itR1 (vs : List V) (H : Hp) (R : It → Hp → Prop) : Prop := ∃ j : Int, vs = [.int j] ∧ -(2 ^ 62) ≤ j ∧ j < 2 ^ 62 ∧ R (Itr 0 j.toNat) H
def itR2 (vs : List V) (H : Hp) (R : It → Hp → Prop) : Prop := ∃ i j : Int, vs = [.int i, .int j] ∧ (-(2 ^ 62) ≤ i ∧ i < 2 ^ 62 ∧ -(2 ^ 62) ≤ j ∧ j < 2 ^ 62) ∧ R (Itr i (j - i).toNat) H
def itR3 (vs : List V) (H : Hp) (R : It → Hp → Prop) : Prop := ∃ (i j c : Int) (n : Nat), vs = [.int i, .int j, .int c] ∧ RgC i j c n ∧ R (Itc i c n) H
def itE (K : PySem.W.Frag) (vs : List V) (H : Hp) (R : It → Hp → Prop) : Prop := ∃ a xs, vs = [.ref a] ∧ SqL K H a xs ∧ R (Ite K a) H
def itZ (K : PySem.W.Frag) (vs : List V) (H : Hp) (R : It → Hp → Prop) : Prop := ∃ a b xs ys, vs = [.ref a, .ref b] ∧ SqL K H a xs ∧ SqL K H b ys ∧ R (Itz K a b) H
def itS (x : V) (H : Hp) (R : It → Hp → Prop) : Prop := ∃ z, x = .str z ∧ R (Its z) H
def itZA (K : PySem.W.Frag) (vs : List V) (H : Hp) (R : It → Hp → Prop) : Prop := ∃ a b xs ys, vs = [.ref a, .ref b] ∧ ((SqL K H a xs ∧ SqL K H b ys ∧ R (Itz K a b) H) ∨ (SqT K H a xs ∧ SqT K H b ys ∧ R (ItzT K a b) H))
variable {RJ : It → Hp → Prop}
theorem t_iZA (k : Tr L fun H => tr σ H fun x H1 => itZA K x H1 RJ) : Tr L fun H => iZipA K tr σ H RJ := k
theorem t_iL (k : Tr L fun H => te σ H fun x H1 => itL K x H1 RJ) : Tr L fun H => iList K te σ H RJ := k
theorem t_iT (k : Tr L fun H => te σ H fun x H1 => itT K x H1 RJ) : Tr L fun H => iTup K te σ H RJ := k
theorem t_iR1 (k : Tr L fun H => tr σ H fun x H1 => itR1 x H1 RJ) : Tr L fun H => iRng1 tr σ H RJ := k
theorem t_iR2 (k : Tr L fun H => tr σ H fun x H1 => itR2 x H1 RJ) : Tr L fun H => iRng2 tr σ H RJ := k
theorem t_iR3 (k : Tr L fun H => tr σ H fun x H1 => itR3 x H1 RJ) : Tr L fun H => iRng3 tr σ H RJ := k
theorem t_iE (k : Tr L fun H => tr σ H fun x H1 => itE K x H1 RJ) : Tr L fun H => iEnum K tr σ H RJ := k
theorem t_iZ (k : Tr L fun H => tr σ H fun x H1 => itZ K x H1 RJ) : Tr L fun H => iZip K tr σ H RJ := k
theorem t_iS (k : Tr L fun H => te σ H fun x H1 => itS x H1 RJ) : Tr L fun H => iStr te σ H RJ := k
variable {R R' : Lg} {a b : Addr} {xs ys : List V}
theorem t_itL (hp : Pick a (.lst xs) L R) (k : Tr L fun H => RJ (Itl K a) H) : Tr L fun H => itL K (.ref a) H RJ := fun H l => ⟨a, rfl, ⟨xs, sqL hp l⟩, k H l⟩
theorem t_itT (hp : Pick a (.tup xs) L R) (k : Tr L fun H => RJ (Itt K a) H) : Tr L fun H => itT K (.ref a) H RJ := fun H l => ⟨a, rfl, ⟨xs, sqT hp l⟩, k H l⟩
theorem t_itR1 {j : Int} (h1 : -(2 ^ 62) ≤ j) (h2 : j < 2 ^ 62) (k : Tr L fun H => RJ (Itr 0 j.toNat) H) : Tr L fun H => itR1 [.int j] H RJ := fun H l => ⟨j, rfl, h1, h2, k H l⟩
theorem t_itR2 {i j : Int} (h1 : -(2 ^ 62) ≤ i ∧ i < 2 ^ 62 ∧ -(2 ^ 62) ≤ j ∧ j < 2 ^ 62) (k : Tr L fun H => RJ (Itr i (j - i).toNat) H) : Tr L fun H => itR2 [.int i, .int j] H RJ := fun H l => ⟨i, j, rfl, h1, k H l⟩
theorem t_itR3 {i j c : Int} {n : Nat} (h1 : RgC i j c n) (k : Tr L fun H => RJ (Itc i c n) H) : Tr L fun H => itR3 [.int i, .int j, .int c] H RJ := fun H l => ⟨i, j, c, n, rfl, h1, k H l⟩
theorem t_itE (hp : Pick a (.lst xs) L R) (k : Tr L fun H => RJ (Ite K a) H) : Tr L fun H => itE K [.ref a] H RJ := fun H l => ⟨a, xs, rfl, sqL hp l, k H l⟩
theorem t_itZ (hp : Pick a (.lst xs) L R) (hq : Pick b (.lst ys) L R') (k : Tr L fun H => RJ (Itz K a b) H) : Tr L fun H => itZ K [.ref a, .ref b] H RJ := fun H l => ⟨a, b, xs, ys, rfl, sqL hp l, sqL hq l, k H l⟩
theorem t_itZL (hp : Pick a (.lst xs) L R) (hq : Pick b (.lst ys) L R') (k : Tr L fun H => RJ (Itz K a b) H) : Tr L fun H => itZA K [.ref a, .ref b] H RJ := fun H l => ⟨a, b, xs, ys, rfl, .inl ⟨sqL hp l, sqL hq l, k H l⟩⟩
theorem t_itZT (hp : Pick a (.tup xs) L R) (hq : Pick b (.tup ys) L R') (k : Tr L fun H => RJ (ItzT K a b) H) : Tr L fun H => itZA K [.ref a, .ref b] H RJ := fun H l => ⟨a, b, xs, ys, rfl, .inr ⟨sqT hp l, sqT hq l, k H l⟩⟩
theorem t_itS {z : Str} (k : Tr L fun H => RJ (Its z) H) : Tr L fun H => itS (.str z) H RJ := fun H l => ⟨z, rfl, k H l⟩
theorem t_nxP {α : Type} {S : Nat → α → SS} {M : Nat → α → Lg} {I : Nat → α → Prop} {i : Nat} {r : VK} {b c : SS → Hp → Prop} (k : Tr L fun H => Pst S M I i σ H) : Tr L fun H => Ends.nx ⟨Pst S M I i, r, b, c⟩ σ H := k
theorem t_ctP {α : Type} {S : Nat → α → SS} {M : Nat → α → Lg} {I : Nat → α → Prop} {i : Nat} {r : VK} {f b : SS → Hp → Prop} (k : Tr L fun H => Pst S M I i σ H) : Tr L fun H => Ends.ct ⟨f, r, b, Pst S M I i⟩ σ H := k
/-! ### while -/
/-- the state at the end of a while's turn -/
def Wst {α : Type} (S : α → SS) (M : α → Lg) (I : α → Prop) (μ : α → Nat) (n : Nat) (σ : SS) (H : Hp) : Prop := ∃ z, I z ∧ μ z < n ∧ σ = S z ∧ Led H (M z)
theorem t_nxW {α : Type} {S : α → SS} {M : α → Lg} {I : α → Prop} {μ : α → Nat} {n : Nat} {r : VK} {b c : SS → Hp → Prop} (k : Tr L fun H => Wst S M I μ n σ H) : Tr L fun H => Ends.nx ⟨Wst S M I μ n, r, b, c⟩ σ H := k
theorem t_ctW {α : Type} {S : α → SS} {M : α → Lg} {I : α → Prop} {μ : α → Nat} {n : Nat} {r : VK} {f b : SS → Hp → Prop} (k : Tr L fun H => Wst S M I μ n σ H) : Tr L fun H => Ends.ct ⟨f, r, b, Wst S M I μ n⟩ σ H := k
theorem t_while {α : Type} {tc : TT} (S : α → SS) (M : α → Lg) (I : α → Prop) (μ : α → Nat) (h0 : ∃ y, I y ∧ σ = S y ∧ Sub L (M y))
    (hs : ∀ y, I y → ∃ b, (∀ QB : Bool → Hp → Prop, Tr (M y) (fun H => QB b H) → Tr (M y) fun H => tc (S y) H QB) ∧
      (b = true → Tr (M y) fun H => tb { D with nx := Wst S M I μ (μ y), ct := Wst S M I μ (μ y), bk := D.nx } (S y) H) ∧
      (b = false → Tr (M y) fun H => D.nx (S y) H)) : Tr L fun H => tWhile tc tb D σ H := by
  intro H l
  obtain ⟨y0, i0, e0, s0⟩ := h0
  refine ⟨fun m σ' H' => ∃ y, m = μ y ∧ I y ∧ σ' = S y ∧ Led H' (M y), ⟨μ y0, y0, rfl, i0, e0, l.sub s0⟩, ?_⟩
  rintro m σ' H' ⟨y, rfl, iy, rfl, ly⟩
  obtain ⟨b, h1, h2, h3⟩ := hs y iy
  refine h1 _ (fun H2 l2 => ?_) H' ly
  cases b with
  | true =>
    rw [if_pos rfl]
    exact ⟨_, fun σ3 H3 ⟨z, iz, lt, e, lz⟩ => ⟨μ z, lt, z, rfl, iz, e, lz⟩, h2 rfl H2 l2⟩
  | false =>
    rw [if_neg Bool.false_ne_true]
    exact h3 rfl H2 l2
theorem t_whl {α : Type} {S : α → SS} {M : α → Lg} {I : α → Prop} {μ : α → Nat} {n : Nat} (y : α) (hI : I y) (hm : μ y < n) (hσ : σ = S y) (hM : Sub L (M y)) : Tr L fun H => Wst S M I μ n σ H :=
  fun H l => ⟨y, hI, hm, hσ, l.sub hM⟩
end

/-! ### list comprehensions -/
section
variable {L : Lg} {σ σ0 : SS} {K : PySem.W.Frag} {wi : TI} {g : TG} {tt : TT} {te : TE} {vs : List Nat} {Q : VK}
def lcK (g : TG) (tt : TT) (te : TE) (vs : List Nat) (σ : SS) (Q : VK) (J : It) (H1 : Hp) : Prop := ∀ D, H1 D = none → ∃ W : Nat → Nat → Hp → Prop, (∃ m, W 0 m (upd H1 D (.lst []))) ∧ ∀ i m H, W i m H →
  (J.stop i H ∧ Q (.ref D) H) ∨ (J.go i H ∧ ∃ Nx : Hp → Prop, (∀ H', Nx H' → ∃ m', m' < m ∧ W (i + 1) m' H') ∧ ∀ x H', J.yld i H x H' → g x (wipe σ vs) H' fun σ2 H2 => wipe σ2 vs = wipe σ vs ∧ tt σ2 H2 fun b H3 =>
    if b = true then te σ2 H3 fun y H4 => ∃ acc, H4 D = some (.lst acc) ∧ acc.length < sizeLine ∧ Nx (upd H4 D (.lst (acc ++ [y]))) else Nx H3)
theorem t_lc (k : Tr L fun H => wi σ H (lcK g tt te vs σ Q)) : Tr L fun H => tLc wi g tt te vs σ H Q := k
/-- an item is added to the new list -/
def lcAdd (D : Addr) (N : Hp → Prop) (y : V) (H : Hp) : Prop := ∃ acc, H D = some (.lst acc) ∧ acc.length < sizeLine ∧ N (upd H D (.lst (acc ++ [y])))
def lcNx {α : Type} (M : Nat → α → Lg) (out : Nat → α → List V) (I : Nat → α → Prop) (D : Addr) (i : Nat) (H : Hp) : Prop := ∃ y, I i y ∧ Led H ((D, .lst (out i y)) :: M i y)
theorem t_lcAdd {α : Type} {M : Nat → α → Lg} {out : Nat → α → List V} {I : Nat → α → Prop} {D : Addr} {i : Nat} {acc : List V} {R : Lg} {v : V} (y : α) (hI : I i y) (hp : Pick D (.lst acc) L R) (hz : acc.length < sizeLine)
    (he : acc ++ [v] = out i y) (hM : Sub R (M i y)) : Tr L fun H => lcAdd D (lcNx M out I D i) v H := fun H l => by
  refine ⟨acc, l.get hp, hz, y, hI, ?_⟩
  rw [he]
  have l2 := (l.pick hp).put (o' := .lst (out i y))
  exact l2.sub (.take .head hM)
theorem t_lcSkip {α : Type} {M : Nat → α → Lg} {out : Nat → α → List V} {I : Nat → α → Prop} {D : Addr} {i : Nat} (y : α) (hI : I i y) (hM : Sub L ((D, .lst (out i y)) :: M i y)) : Tr L fun H => lcNx M out I D i H := fun H l => ⟨y, hI, l.sub hM⟩
theorem t_lcK {α : Type} {J : It} {n : Nat} {val : Nat → V → Lg → Prop} {Src : Lg → Prop} (wk : Wk J n val Src) (hw : wipe σ vs = σ0) (M : Nat → α → Lg) (out : Nat → α → List V) (I : Nat → α → Prop)
    (h0 : ∃ y, I 0 y ∧ out 0 y = [] ∧ Sub L (M 0 y)) (hsrc : ∀ D i y, I i y → Src ((D, .lst (out i y)) :: M i y))
    (hs : ∀ D i y v L', i < n → I i y → val i v L' → Tr (L' ++ (D, .lst (out i y)) :: M i y) fun H => g v σ0 H fun σ2 H2 => wipe σ2 vs = σ0 ∧ tt σ2 H2 fun b H3 =>
      if b = true then te σ2 H3 (lcAdd D (lcNx M out I D (i + 1))) else lcNx M out I D (i + 1) H3)
    (hd : ∀ D y, I n y → Tr ((D, .lst (out n y)) :: M n y) fun H => Q (.ref D) H) : Tr L fun H => lcK g tt te vs σ Q J H := by
  intro H l D hD
  obtain ⟨y0, i0, e0, s0⟩ := h0
  have start : lcNx M out I D 0 (upd H D (.lst [])) := ⟨y0, i0, by rw [e0]; exact (l.new hD).sub (.take .head s0)⟩
  refine ⟨fun i m H' => m = n - i ∧ i ≤ n ∧ lcNx M out I D i H', ⟨n, by simp, Nat.zero_le _, start⟩, ?_⟩
  rintro i m H' ⟨rfl, hi, y, iy, ly⟩
  by_cases h : i < n
  · refine .inr ⟨wk.go _ _ i (hsrc D i y iy) ly h, lcNx M out I D (i + 1), fun H2 p => ⟨n - (i + 1), by omega, rfl, h, p⟩, fun v H2 yl => ?_⟩
    obtain ⟨L', hv, l'⟩ := wk.yld _ _ i v H2 (hsrc D i y iy) ly h yl
    rw [hw]
    exact hs D i y v L' h iy hv H2 l'
  · obtain rfl : i = n := by omega
    exact .inl ⟨wk.stop _ _ (hsrc D i y iy) ly, hd D y iy H' ly⟩
theorem t_wiped {G : Hp → Prop} {σ2 : SS} (hw : wipe σ2 vs = σ0) (k : Tr L G) : Tr L fun H => wipe σ2 vs = σ0 ∧ G H := fun H l => ⟨hw, k H l⟩
theorem t_yes {QB : Bool → Hp → Prop} (k : Tr L fun H => QB true H) : Tr L fun H => tYes σ H QB := k
end
end Hz
namespace Hz
open PySem PySem.Spec PyProof.Rows L2 RZ
/-- the slot i of σ holds v -/
inductive GetAt : SS → Nat → V → Prop where
  | zero {v : V} {r : SS} : GetAt (some v :: r) 0 v
  | succ {i : Nat} {v : V} {y : Option V} {r : SS} : GetAt r i v → GetAt (y :: r) (i + 1) v
theorem GetAt.eq {σ : SS} {i : Nat} {v : V} (h : GetAt σ i v) : σ[i]? = some (some v) := by
  induction h with
  | zero => rfl
  | succ _ ih => rw [List.getElem?_cons_succ, ih]
section
variable {L R : Lg} {σ σ' : SS} {Q : VK} {te : TE} {D : Ends} {v x : V} {i : Nat}
theorem t_varA (h : GetAt σ i v) (k : Tr L fun H => Q v H) : Tr L fun H => tVar i σ H Q := t_var h.eq k
theorem t_augA {ti : TIp} (h : GetAt σ i x) (k : Tr L fun H => te σ H fun y H1 => ti x y H1 fun z H2 => gName i z σ H2 D.nx) : Tr L fun H => tAug i te ti D σ H := t_aug h.eq k
end
end Hz

/-! Hz, rules with readings that bear a name. -/
namespace Hz
open PySem PySem.Spec PyProof.Rows L2 RZ
/-! ### the module's names -/
/-- a constant of the module -/
def GV (mg : Str → Option Value) (x : Str) (v : V) : Prop := ∃ u, mg x = some u ∧ RelV v u
section
variable {X : Cx}
theorem pe_gv {x : Str} {v : V} {pos : Pos} (h : GV X.mg x v) (hg : Gl X x := by rfl) (hd : (x == ("__debug__" : Str)) = false := by decide) (hc : (x == ("__classdict__" : Str)) = false := by decide) : PE X (.Name x pos) (tC v) := by
  obtain ⟨u, hm, r⟩ := h
  exact pe_glob hg hm r hd
/-! ### numbers -/
def cPow (i j : Int) : Prop := 0 ≤ j ∧ (Builtin.Int.intBits i : Int) * j ≤ 2 ^ 27
theorem op_powW : OpR X (binaryOp .Pow) (rI cPow fun i j => .int (i ^ j.toNat)) := opI fun _ _ _ _ _ _ _ hc q => pow_int hc.1 hc.2 q
def cMul (i j : Int) : Prop := (-(2 ^ 64) < i ∧ i < 2 ^ 64) ∨ (-(2 ^ 64) < j ∧ j < 2 ^ 64) ∨ CMulW i j
theorem op_mulA : OpR X (binaryOp .Mult) (rI cMul fun i j => .int (i * j)) := opI fun _ _ _ _ _ _ _ hc q => by
  rcases hc with h | h | h
  · exact mul_int q (CMul.ok (.inl h))
  · exact mul_int q (CMul.ok (.inr h))
  · exact mul_int q h.ok
def rMax2 : List V → Hp → VK → Prop := fun xs H Q => ∃ i j, xs = [.int i, .int j] ∧ Q (.int (max i j)) H
def rMin2 : List V → Hp → VK → Prop := fun xs H Q => ∃ i j, xs = [.int i, .int j] ∧ Q (.int (min i j)) H
theorem max_ite (i j : Int) : (if j > i then j else i) = max i j := by split <;> omega
theorem min_ite (i j : Int) : (if j < i then j else i) = min i j := by split <;> omega
theorem c_max2 (hc : X.calm = true) : CallR X (.builtin "max") rMax2 := fun pins s σ H xs us Q I r ⟨i, j, e, q⟩ => call_max2 hc pins s σ H xs us Q I r ⟨i, j, e, by rw [max_ite]; exact q⟩
theorem c_min2 (hc : X.calm = true) : CallR X (.builtin "min") rMin2 := fun pins s σ H xs us Q I r ⟨i, j, e, q⟩ => call_min2 hc pins s σ H xs us Q I r ⟨i, j, e, by rw [min_ite]; exact q⟩
def rInt : List V → Hp → VK → Prop := fun xs H Q => (∃ i, xs = [.int i] ∧ Q (.int i) H) ∨ ∃ k, xs = [.bl k] ∧ Q (.int (if k then 1 else 0)) H
theorem c_int : CallR X (.type "int") rInt := call_int1
/-! ### len, isinstance, list(..), tuple(..) -/
def rLen (K : PySem.W.Frag) : List V → Hp → VK → Prop := fun xs H Q => ∃ x n, xs = [x] ∧ LenV K x H n ∧ Q (.int n) H
theorem c_len : CallR X (.builtin "len") (rLen X.K) := call_len
def rIs (K : PySem.W.Frag) : List V → Hp → VK → Prop := fun xs H Q => ∃ (x c : V) (t u : Value) (b : Bool), xs = [x, c] ∧ ClsV c u ∧ TyX K H x t ∧ PySem.W.kitOne K t u = some b ∧ Q (.bl b) H
theorem c_is : CallR X (.builtin "isinstance") (rIs X.K) := call_isi
def rIsT (K : PySem.W.Frag) : List V → Hp → VK → Prop := fun xs H Q => ∃ (x : V) (tp : Addr) (cs : List V) (t : Value) (us : List Value) (b : Bool), xs = [x, .ref tp] ∧ H tp = some (.tup cs) ∧ Paired ClsV cs us ∧ TyX K H x t ∧ PySem.W.kitAny K t us = some b ∧ Q (.bl b) H
theorem c_isT : CallR X (.builtin "isinstance") (rIsT X.K) := call_isiT
def rList (K : PySem.W.Frag) : List V → Hp → VK → Prop := fun xs H Q => ∃ p ys, xs = [.ref p] ∧ (SqL K H p ys ∨ SqT K H p ys) ∧ ∀ l, H l = none → Q (.ref l) (upd H l (.lst ys))
theorem c_list : CallR X (.type "list") (rList X.K) := call_list_of
def rTuple (K : PySem.W.Frag) : List V → Hp → VK → Prop := fun xs H Q => ∃ p ys, xs = [.ref p] ∧ ((SqL K H p ys ∧ ∀ l, H l = none → Q (.ref l) (upd H l (.tup ys))) ∨ (SqT K H p ys ∧ Q (.ref p) H))
theorem c_tuple : CallR X (.type "tuple") (rTuple X.K) := call_tuple_of
end
/-! ### their steps -/
section
variable {L R : Lg} {Q : VK} {K : PySem.W.Frag} {a p : Addr} {xs : List V} {σ : SS}
theorem t_max2 {i j : Int} (k : Tr L fun H => Q (.int (max i j)) H) : Tr L fun H => rMax2 [.int i, .int j] H Q := fun H l => ⟨i, j, rfl, k H l⟩
theorem t_min2 {i j : Int} (k : Tr L fun H => Q (.int (min i j)) H) : Tr L fun H => rMin2 [.int i, .int j] H Q := fun H l => ⟨i, j, rfl, k H l⟩
theorem t_intB {b : Bool} (k : Tr L fun H => Q (.int (if b then 1 else 0)) H) : Tr L fun H => rInt [.bl b] H Q := fun H l => .inr ⟨b, rfl, k H l⟩
theorem t_intI {i : Int} (k : Tr L fun H => Q (.int i) H) : Tr L fun H => rInt [.int i] H Q := fun H l => .inl ⟨i, rfl, k H l⟩
theorem t_lenL (hp : Pick p (.lst xs) L R) (k : Tr L fun H => Q (.int xs.length) H) : Tr L fun H => rLen K [.ref p] H Q := fun H l => ⟨_, _, rfl, .inl ⟨xs, sqL hp l, rfl⟩, k H l⟩
theorem t_lenT (hp : Pick p (.tup xs) L R) (k : Tr L fun H => Q (.int xs.length) H) : Tr L fun H => rLen K [.ref p] H Q := fun H l => ⟨_, _, rfl, .inr ⟨xs, sqT hp l, rfl⟩, k H l⟩
theorem t_lenS {z : Str} (hz : z.length ≤ sizeLine) (k : Tr L fun H => Q (.int z.length) H) : Tr L fun H => rLen K [.str z] H Q := fun H l => ⟨_, _, rfl, ⟨hz, rfl⟩, k H l⟩
/-- the type's name of a value that is no object -/
def tyN : V → String
  | .non => "NoneType"
  | .bl _ => "bool"
  | .int _ => "int"
  | .str _ => "str"
  | .byt _ => "bytes"
  | .flt _ => "float"
  | _ => "?"
theorem tyN_of {x : V} {H : Hp} (h : (tyN x == "?") = false) : TyX K H x (.type (tyN x)) := by
  cases x with
  | non => exact .base .non
  | bl b => exact .base (.bl b)
  | int i => exact .base (.int i)
  | str z => exact .base (.str z)
  | byt b => exact .byt b
  | flt b => exact .base (.flt b)
  | ref a => cases h
  | ty n => cases h
theorem t_isV {x : V} {C : String} {b : Bool} (hn : (tyN x == "?") = false) (hb : kitB (tyN x) C = some b) (k : Tr L fun H => Q (.bl b) H) : Tr L fun H => rIs K [x, .ty C] H Q :=
  fun H l => ⟨x, .ty C, _, _, b, rfl, .ty C, tyN_of hn, kit_ty hb, k H l⟩
theorem t_isL {C : String} {b : Bool} (hp : Pick p (.lst xs) L R) (hb : kitB "list" C = some b) (k : Tr L fun H => Q (.bl b) H) : Tr L fun H => rIs K [.ref p, .ty C] H Q :=
  fun H l => ⟨_, .ty C, _, _, b, rfl, .ty C, .base (.lst (l.get hp)), kit_ty hb, k H l⟩
theorem t_isT {C : String} {b : Bool} (hp : Pick p (.tup xs) L R) (hb : kitB "tuple" C = some b) (k : Tr L fun H => Q (.bl b) H) : Tr L fun H => rIs K [.ref p, .ty C] H Q :=
  fun H l => ⟨_, .ty C, _, _, b, rfl, .ty C, .base (.tup (l.get hp)), kit_ty hb, k H l⟩
theorem t_isD {C : String} {b : Bool} {kvs : List (Key × V)} (hp : Pick p (.dK kvs) L R) (hb : kitB "dict" C = some b) (k : Tr L fun H => Q (.bl b) H) : Tr L fun H => rIs K [.ref p, .ty C] H Q :=
  fun H l => ⟨_, .ty C, _, _, b, rfl, .ty C, .base (.dK (l.get hp)), kit_ty hb, k H l⟩
/-- one of several types -/
def kitBs (T : String) : List String → Option Bool
  | [] => some false
  | C :: r => match kitB T C with
    | some true => some true
    | some false => kitBs T r
    | none => none
theorem kitBs_any : ∀ {T : String} {Cs : List String} {b : Bool}, kitBs T Cs = some b → PySem.W.kitAny K (.type T) (Cs.map Value.type) = some b
  | T, [], b, h => by
    cases h
    exact kitAny_nil
  | T, C :: r, b, h => by
    unfold kitBs at h
    cases e : kitB T C with
    | none => rw [e] at h; cases h
    | some c =>
      rw [e] at h
      cases c with
      | true => cases h; exact kitAny_cons (kit_ty e) (fun z => nomatch z) fun _ => rfl
      | false => exact kitAny_cons (kit_ty e) (fun _ => kitBs_any h) fun z => nomatch z
theorem cls_tys : ∀ Cs : List String, Paired ClsV (Cs.map V.ty) (Cs.map Value.type)
  | [] => .nil
  | C :: r => .cons (.ty C) (cls_tys r)
theorem t_isTV {x : V} {Cs : List String} {b : Bool} {tp : Addr} (hp : Pick tp (.tup (Cs.map V.ty)) L R) (hn : (tyN x == "?") = false) (hb : kitBs (tyN x) Cs = some b) (k : Tr L fun H => Q (.bl b) H) : Tr L fun H => rIsT K [x, .ref tp] H Q :=
  fun H l => ⟨x, tp, _, _, _, b, rfl, l.get hp, cls_tys Cs, tyN_of hn, kitBs_any hb, k H l⟩
theorem t_isTL {R' : Lg} {Cs : List String} {b : Bool} {tp : Addr} (hp : Pick tp (.tup (Cs.map V.ty)) L R) (hq : Pick p (.lst xs) L R') (hb : kitBs "list" Cs = some b) (k : Tr L fun H => Q (.bl b) H) : Tr L fun H => rIsT K [.ref p, .ref tp] H Q :=
  fun H l => ⟨_, tp, _, _, _, b, rfl, l.get hp, cls_tys Cs, .base (.lst (l.get hq)), kitBs_any hb, k H l⟩
theorem t_isTT {R' : Lg} {Cs : List String} {b : Bool} {tp : Addr} (hp : Pick tp (.tup (Cs.map V.ty)) L R) (hq : Pick p (.tup xs) L R') (hb : kitBs "tuple" Cs = some b) (k : Tr L fun H => Q (.bl b) H) : Tr L fun H => rIsT K [.ref p, .ref tp] H Q :=
  fun H l => ⟨_, tp, _, _, _, b, rfl, l.get hp, cls_tys Cs, .base (.tup (l.get hq)), kitBs_any hb, k H l⟩
theorem t_isTD {R' : Lg} {Cs : List String} {b : Bool} {tp : Addr} {kvs : List (Key × V)} (hp : Pick tp (.tup (Cs.map V.ty)) L R) (hq : Pick p (.dK kvs) L R') (hb : kitBs "dict" Cs = some b) (k : Tr L fun H => Q (.bl b) H) : Tr L fun H => rIsT K [.ref p, .ref tp] H Q :=
  fun H l => ⟨_, tp, _, _, _, b, rfl, l.get hp, cls_tys Cs, .base (.dK (l.get hq)), kitBs_any hb, k H l⟩
theorem t_listL (hp : Pick a (.lst xs) L R) (k : ∀ p, Tr ((p, .lst xs) :: L) fun H => Q (.ref p) H) : Tr L fun H => rList K [.ref a] H Q := fun H l => ⟨a, xs, rfl, .inl (sqL hp l), fun p hp' => k p _ (l.new hp')⟩
theorem t_listT (hp : Pick a (.tup xs) L R) (k : ∀ p, Tr ((p, .lst xs) :: L) fun H => Q (.ref p) H) : Tr L fun H => rList K [.ref a] H Q := fun H l => ⟨a, xs, rfl, .inr (sqT hp l), fun p hp' => k p _ (l.new hp')⟩
theorem t_tupleL (hp : Pick a (.lst xs) L R) (k : ∀ p, Tr ((p, .tup xs) :: L) fun H => Q (.ref p) H) : Tr L fun H => rTuple K [.ref a] H Q := fun H l => ⟨a, xs, rfl, .inl ⟨sqL hp l, fun p hp' => k p _ (l.new hp')⟩⟩
/-- list(range(..)) -/
def newRg (m n : Int) (H : Hp) (Q : VK) : Prop := RgOk m n ∧ ∀ q, H q = none → Q (.ref q) (upd H q (.lst (rgV m n)))
theorem t_lstRg {te : SS → Hp → (Int → Int → Hp → Prop) → Prop} (k : Tr L fun H => te σ H fun m n H1 => newRg m n H1 Q) : Tr L fun H => tLstRg te σ H Q := k
theorem t_rg1 {te : TE} {QQ : Int → Int → Hp → Prop} (k : Tr L fun H => te σ H fun x H1 => ∃ n, x = .int n ∧ QQ 0 n H1) : Tr L fun H => tRg1 te σ H QQ := k
theorem t_rg2 {te tf : TE} {QQ : Int → Int → Hp → Prop} (k : Tr L fun H => te σ H fun x H1 => tf σ H1 fun y H2 => ∃ i j, x = .int i ∧ y = .int j ∧ QQ i j H2) : Tr L fun H => tRg2 te tf σ H QQ := k
theorem t_int2 {m n : Int} {G : Int → Int → Hp → Prop} (k : Tr L fun H => G m n H) : Tr L fun H => ∃ i j, V.int m = .int i ∧ V.int n = .int j ∧ G i j H := fun H l => ⟨m, n, rfl, rfl, k H l⟩
theorem t_newRg {m n : Int} (h : RgOk m n) (k : ∀ p, Tr ((p, .lst (rgV m n)) :: L) fun H => Q (.ref p) H) : Tr L fun H => newRg m n H Q := fun H l => ⟨h, fun p hp => k p _ (l.new hp)⟩
/-- xs[::-1] -/
def newRev (K : PySem.W.Frag) (x : V) (H : Hp) (Q : VK) : Prop := ∃ a xs, x = .ref a ∧ SqL K H a xs ∧ ∀ p, H p = none → Q (.ref p) (upd H p (.lst xs.reverse))
theorem t_revL {te : TE} (k : Tr L fun H => te σ H fun x H1 => newRev K x H1 Q) : Tr L fun H => tRevL K te σ H Q := k
theorem t_newRev (hp : Pick a (.lst xs) L R) (k : ∀ p, Tr ((p, .lst xs.reverse) :: L) fun H => Q (.ref p) H) : Tr L fun H => newRev K (.ref a) H Q := fun H l => ⟨a, xs, rfl, sqL hp l, fun p hp' => k p _ (l.new hp')⟩
theorem t_isB {m n : Bool} (k : Tr L fun H => Q (.bl (decide (m = n))) H) : Tr L fun H => rIsB (.bl m) (.bl n) H Q := fun H l => ⟨m, n, rfl, rfl, k H l⟩
theorem t_notB {m n : Bool} (k : Tr L fun H => Q (.bl (!decide (m = n))) H) : Tr L fun H => rNotB (.bl m) (.bl n) H Q := fun H l => ⟨m, n, rfl, rfl, k H l⟩
theorem t_all {bs : List Bool} (hp : Pick a (.lst (bs.map V.bl)) L R) (k : Tr L fun H => Q (.bl (bs.all id)) H) : Tr L fun H => rAll K [.ref a] H Q := fun H l => ⟨a, bs, rfl, sqL hp l, k H l⟩
theorem t_any {bs : List Bool} (hp : Pick a (.lst (bs.map V.bl)) L R) (k : Tr L fun H => Q (.bl (bs.any id)) H) : Tr L fun H => rAny K [.ref a] H Q := fun H l => ⟨a, bs, rfl, sqL hp l, k H l⟩
theorem t_sum {ns : List Int} (hp : Pick a (.lst (ns.map V.int)) L R) (k : Tr L fun H => Q (.int ns.sum) H) : Tr L fun H => rSum K [.ref a] H Q := fun H l => ⟨a, ns, rfl, sqL hp l, k H l⟩
theorem t_maxL {ns : List Int} (hp : Pick a (.lst (ns.map V.int)) L R) (h0 : 0 < ns.length) (k : ∀ m, m ∈ ns → (∀ y, y ∈ ns → y ≤ m) → Tr L fun H => Q (.int m) H) : Tr L fun H => rMax K [.ref a] H Q := fun H l => ⟨a, ns, rfl, sqL hp l, h0, fun m h1 h2 => k m h1 h2 H l⟩
theorem t_minL {ns : List Int} (hp : Pick a (.lst (ns.map V.int)) L R) (h0 : 0 < ns.length) (k : ∀ m, m ∈ ns → (∀ y, y ∈ ns → m ≤ y) → Tr L fun H => Q (.int m) H) : Tr L fun H => rMin K [.ref a] H Q := fun H l => ⟨a, ns, rfl, sqL hp l, h0, fun m h1 h2 => k m h1 h2 H l⟩
/-- data by the ledger -/
def DpL (K : PySem.W.Frag) (L : Lg) (x : V) (d : PyData) : Prop := ∀ H, Led H L → Dp K H x d
theorem dpAll_ints {H : Hp} : ∀ ns : List Int, DpAll K H (ns.map V.int) (ns.map PyData.int)
  | [] => .nil
  | n :: r => .cons (.int n) (dpAll_ints r)
theorem dpl_ints {ns : List Int} (hp : Pick a (.lst (ns.map V.int)) L R) : DpL K L (.ref a) (.list (ns.map PyData.int)) := fun H l => .lst (sqL hp l) (dpAll_ints ns)
theorem t_repr {x : V} {d : PyData} (hd : DpL K L x d) (hs : d.showable = true) (hk : d.depth < 60) (hz : d.shown.length ≤ sizeLine) (k : Tr L fun H => Q (.str d.shown) H) : Tr L fun H => rRepr K [x] H Q :=
  fun H l => ⟨x, d, rfl, hd H l, hs, hk, hz, k H l⟩
theorem t_eqD {x y : V} {d e : PyData} (hd : DpL K L x d) (he : DpL K L y e) (sd : SeqAt.shaped d = true) (se : SeqAt.shaped e = true) (k : Tr L fun H => Q (.bl (PyData.eqv d e)) H) : Tr L fun H => rEqD K x y H Q :=
  fun H l => ⟨d, e, hd H l, he H l, sd, se, k H l⟩
theorem t_neD {x y : V} {d e : PyData} (hd : DpL K L x d) (he : DpL K L y e) (sd : SeqAt.shaped d = true) (se : SeqAt.shaped e = true) (k : Tr L fun H => Q (.bl (!PyData.eqv d e)) H) : Tr L fun H => rNeD K x y H Q :=
  fun H l => ⟨d, e, hd H l, he H l, sd, se, k H l⟩
end
end Hz

/-! Hz, part D: data by the ledger; defs by name; types by the ledger. -/
namespace Hz
open PySem PySem.Spec PyProof.Rows L2 RZ
/-! ### a def of the text, by its name -/
def Df (K : PySem.W.Frag) (mg : Str → Option Value) (x : Str) (st : Stmt) : Prop := ∃ (f : Addr) (fd : FuncData), mg x = some (.ref f) ∧ Fun K x x st f fd
/-- the built-in names are the built-ins -/
structure Blt (mg : Str → Option Value) : Prop where
  len_ : mg "len" = none
  isinstance_ : mg "isinstance" = none
  int_ : mg "int" = none
  bool_ : mg "bool" = none
  str_ : mg "str" = none
  list_ : mg "list" = none
  tuple_ : mg "tuple" = none
  dict_ : mg "dict" = none
  set_ : mg "set" = none
  range_ : mg "range" = none
  enumerate_ : mg "enumerate" = none
  zip_ : mg "zip" = none
  repr_ : mg "repr" = none
  max_ : mg "max" = none
  min_ : mg "min" = none
  all_ : mg "all" = none
  any_ : mg "any" = none
  sum_ : mg "sum" = none
  sorted_ : mg "sorted" = none
  abs_ : mg "abs" = none
theorem boot_len : bootBuiltins "len" = some (.builtin "len") := PySem.boot_len
theorem boot_min : bootBuiltins "min" = some (.builtin "min") := by decide +kernel
theorem boot_max : bootBuiltins "max" = some (.builtin "max") := by decide +kernel
theorem boot_all : bootBuiltins "all" = some (.builtin "all") := by decide +kernel
theorem boot_any : bootBuiltins "any" = some (.builtin "any") := by decide +kernel
theorem boot_sum : bootBuiltins "sum" = some (.builtin "sum") := by decide +kernel
/-- a promise that nobody can call upon: for the branch that is never walked -/
def spNo : Sp := fun _ _ _ _ => False
theorem okNo {P : Program} {w : World} {K : PySem.W.Frag} {mg : Str → Option Value} {base : Heap} {CX : CXT} {x : Str} {st : Stmt} {ps : List Str} (D : Df K mg x st)
    (b : ∀ fd f, Fun K x x st f fd → Binds K fd ps []) : Ok P w K mg base CX 0 x ps spNo := by
  obtain ⟨f, fd, hm, F⟩ := D
  exact ⟨f, fd, hm, F.kp, b _ _ F, ⟨fun _ _ _ _ h => h.elim, fun _ _ _ _ _ _ _ _ _ _ _ _ _ h => h.elim⟩, F.lk⟩
theorem pe_ty {X : Cx} {x : Str} {T : String} {pos : Pos} (hm : X.mg x = none) (hv : bootBuiltins x = some (.type T)) (hg : Gl X x := by rfl) (hn : x ≠ "__name__" := by decide) (hd : (x == ("__debug__" : Str)) = false := by decide) :
    PE X (.Name x pos) (tC (.ty T)) := pe_bltn hg hm hv (show RelV (.ty T) (.type T) from rfl) hn hd
/-! ### picks and members -/
theorem Pick.mem {a : Addr} {o : HO} {L R : Lg} (h : Pick a o L R) : (a, o) ∈ L := h.perm.mem_iff.mpr (.head _)
theorem Pick.of_mem {a : Addr} {o : HO} : ∀ {L : Lg}, (a, o) ∈ L → ∃ R, Pick a o L R
  | _ :: L, h => by
    cases h with
    | head => exact ⟨_, .head⟩
    | tail _ h => obtain ⟨R, p⟩ := Pick.of_mem h; exact ⟨_, p.tail⟩
/-- the type's name of a value -/
inductive HasTy (L : Lg) : V → String → Prop where
  | non : HasTy L .non "NoneType"
  | bl (b : Bool) : HasTy L (.bl b) "bool"
  | int (i : Int) : HasTy L (.int i) "int"
  | str (z : Str) : HasTy L (.str z) "str"
  | lst {a : Addr} {xs : List V} : (a, .lst xs) ∈ L → HasTy L (.ref a) "list"
  | tup {a : Addr} {xs : List V} : (a, .tup xs) ∈ L → HasTy L (.ref a) "tuple"
  | dct {a : Addr} {kvs : List (Key × V)} : (a, .dK kvs) ∈ L → HasTy L (.ref a) "dict"
theorem HasTy.mono {L M : Lg} {x : V} {T : String} (h : HasTy L x T) (s : ∀ p ∈ L, p ∈ M) : HasTy M x T := by
  cases h with
  | non => exact .non
  | bl b => exact .bl b
  | int i => exact .int i
  | str z => exact .str z
  | lst m => exact .lst (s _ m)
  | tup m => exact .tup (s _ m)
  | dct m => exact .dct (s _ m)
def tyNames : List String := ["NoneType", "bool", "int", "str", "list", "tuple", "dict"]
theorem HasTy.name {L : Lg} {x : V} {T : String} (h : HasTy L x T) : T ∈ tyNames := by cases h <;> decide +kernel
theorem HasTy.tyx {K : PySem.W.Frag} {L : Lg} {H : Hp} {x : V} {T : String} (h : HasTy L x T) (l : Led H L) : TyX K H x (.type T) := by
  cases h with
  | non => exact .base .non
  | bl b => exact .base (.bl b)
  | int i => exact .base (.int i)
  | str z => exact .base (.str z)
  | lst m => exact .base (.lst (l.has _ m))
  | tup m => exact .base (.tup (l.has _ m))
  | dct m => exact .base (.dK (l.has _ m))
/-- isinstance by the types' names -/
def isB (T C : String) : Bool := T == C || (T == "bool" && C == "int")
theorem kitB_isB {T C : String} (h : T ∈ tyNames) (hc : C ∈ tyNames) : kitB T C = some (isB T C) := by
  have all : (tyNames.all fun T => tyNames.all fun C => decide (kitB T C = some (isB T C))) = true := by decide +kernel
  exact of_decide_eq_true (List.all_eq_true.mp (List.all_eq_true.mp all T h) C hc)
section
variable {L R : Lg} {Q : VK} {K : PySem.W.Frag} {x : V} {T : String}
theorem t_is {C : String} (h : HasTy L x T) (hc : C ∈ tyNames) (k : Tr L fun H => Q (.bl (isB T C)) H) : Tr L fun H => rIs K [x, .ty C] H Q :=
  fun H l => ⟨x, .ty C, _, _, _, rfl, .ty C, h.tyx l, kit_ty (kitB_isB h.name hc), k H l⟩
theorem kitBs_isB {T : String} (h : T ∈ tyNames) : ∀ Cs : List String, (∀ C ∈ Cs, C ∈ tyNames) → kitBs T Cs = some (Cs.any (isB T))
  | [], _ => rfl
  | C :: r, hc => by
    unfold kitBs
    rw [kitB_isB h (hc C (.head _)), List.any_cons]
    cases isB T C with
    | true => rfl
    | false => exact kitBs_isB h r fun D hD => hc D (.tail _ hD)
theorem t_isTs {Cs : List String} {tp : Addr} (hp : Pick tp (.tup (Cs.map V.ty)) L R) (h : HasTy L x T) (hc : ∀ C ∈ Cs, C ∈ tyNames) (k : Tr L fun H => Q (.bl (Cs.any (isB T))) H) : Tr L fun H => rIsT K [x, .ref tp] H Q :=
  fun H l => ⟨x, tp, _, _, _, _, rfl, l.get hp, cls_tys Cs, h.tyx l, kitBs_any (kitBs_isB h.name Cs hc), k H l⟩
end
/-! ### data -/
mutual
inductive Dt (L : Lg) : V → PyData → Prop where
  | non : Dt L .non .none
  | bl (b : Bool) : Dt L (.bl b) (.bool b)
  | int (i : Int) : Dt L (.int i) (.int i)
  | str (z : Str) : Dt L (.str z) (.str z)
  | lst {a : Addr} {xs : List V} {ds : List PyData} : (a, .lst xs) ∈ L → DtAll L xs ds → Dt L (.ref a) (.list ds)
  | tup {a : Addr} {xs : List V} {ds : List PyData} : (a, .tup xs) ∈ L → DtAll L xs ds → Dt L (.ref a) (.tuple ds)
inductive DtAll (L : Lg) : List V → List PyData → Prop where
  | nil : DtAll L [] []
  | cons {x : V} {xs : List V} {d : PyData} {ds : List PyData} : Dt L x d → DtAll L xs ds → DtAll L (x :: xs) (d :: ds)
end
mutual
theorem Dt.mono {L M : Lg} (s : ∀ p ∈ L, p ∈ M) : ∀ {x : V} {d : PyData}, Dt L x d → Dt M x d
  | _, _, .non => .non
  | _, _, .bl b => .bl b
  | _, _, .int i => .int i
  | _, _, .str z => .str z
  | _, _, .lst m h => .lst (s _ m) (DtAll.mono s h)
  | _, _, .tup m h => .tup (s _ m) (DtAll.mono s h)
theorem DtAll.mono {L M : Lg} (s : ∀ p ∈ L, p ∈ M) : ∀ {xs : List V} {ds : List PyData}, DtAll L xs ds → DtAll M xs ds
  | _, _, .nil => .nil
  | _, _, .cons h r => .cons (Dt.mono s h) (DtAll.mono s r)
end
mutual
theorem Dt.dp {K : PySem.W.Frag} {L : Lg} {H : Hp} (l : Led H L) : ∀ {x : V} {d : PyData}, Dt L x d → Dp K H x d
  | _, _, .non => .non
  | _, _, .bl b => .bl b
  | _, _, .int i => .int i
  | _, _, .str z => .str z
  | _, _, .lst m h => .lst (.inl (.inl (l.has _ m))) (DtAll.dp l h)
  | _, _, .tup m h => .tup (.inl (.inl (l.has _ m))) (DtAll.dp l h)
theorem DtAll.dp {K : PySem.W.Frag} {L : Lg} {H : Hp} (l : Led H L) : ∀ {xs : List V} {ds : List PyData}, DtAll L xs ds → DpAll K H xs ds
  | _, _, .nil => .nil
  | _, _, .cons h r => .cons (Dt.dp l h) (DtAll.dp l r)
end
theorem Dt.dpl {K : PySem.W.Frag} {L : Lg} {x : V} {d : PyData} (h : Dt L x d) : DpL K L x d := fun _ l => h.dp l
theorem DtAll.len {L : Lg} : ∀ {xs : List V} {ds : List PyData}, DtAll L xs ds → xs.length = ds.length
  | _, _, .nil => rfl
  | _, _, .cons _ r => by rw [List.length_cons, List.length_cons, r.len]
theorem DtAll.get {L : Lg} : ∀ {xs : List V} {ds : List PyData} {i : Nat} {x : V}, DtAll L xs ds → xs[i]? = some x → ∃ d, ds[i]? = some d ∧ Dt L x d
  | _, _, 0, _, .cons h _, e => by cases e; exact ⟨_, rfl, h⟩
  | _, _, i + 1, _, .cons _ r, e => r.get (i := i) (by simpa using e)
theorem DtAll.ints {L : Lg} : ∀ ns : List Int, DtAll L (ns.map V.int) (ns.map PyData.int)
  | [] => .nil
  | n :: r => .cons (.int n) (DtAll.ints r)
theorem Dt.ints {L : Lg} {a : Addr} {ns : List Int} (h : (a, .lst (ns.map V.int)) ∈ L) : Dt L (.ref a) (.list (ns.map PyData.int)) := .lst h (.ints ns)
theorem Dt.intsT {L : Lg} {a : Addr} {ns : List Int} (h : (a, .tup (ns.map V.int)) ∈ L) : Dt L (.ref a) (.tuple (ns.map PyData.int)) := .tup h (.ints ns)
theorem DtAll.bools {L : Lg} : ∀ bs : List Bool, DtAll L (bs.map V.bl) (bs.map PyData.bool)
  | [] => .nil
  | n :: r => .cons (.bl n) (DtAll.bools r)
mutual
/-- no list of it is longer than a list may be -/
def wide : PyData → Bool
  | .list ds | .tuple ds => decide (ds.length ≤ 100000) && wideAll ds
  | _ => true
def wideAll : List PyData → Bool
  | [] => true
  | d :: r => wide d && wideAll r
end
theorem wideAll_mem : ∀ {ds : List PyData} {d : PyData}, wideAll ds = true → d ∈ ds → wide d = true
  | e :: r, d, h, m => by
    rw [wideAll, Bool.and_eq_true] at h
    rcases List.mem_cons.mp m with rfl | m
    · exact h.1
    · exact wideAll_mem h.2 m
theorem wideAll_ints : ∀ ns : List Int, wideAll (ns.map PyData.int) = true
  | [] => by simp only [List.map_nil, wideAll]
  | n :: r => by simp only [List.map_cons, wideAll, wide, wideAll_ints r, Bool.and_self]
theorem wide_ints {ns : List Int} (h : ns.length ≤ 100000) : wide (.list (ns.map PyData.int)) = true := by
  rw [wide, wideAll_ints, List.length_map, decide_eq_true h]; rfl
theorem wide_intsT {ns : List Int} (h : ns.length ≤ 100000) : wide (.tuple (ns.map PyData.int)) = true := by
  rw [wide, wideAll_ints, List.length_map, decide_eq_true h]; rfl
def dtName : PyData → String
  | .none => "NoneType" | .bool _ => "bool" | .int _ => "int" | .str _ => "str" | .list _ => "list" | .tuple _ => "tuple" | .dict _ => "dict"
theorem Dt.ty {L : Lg} {x : V} {d : PyData} (h : Dt L x d) : HasTy L x (dtName d) := by
  cases h with
  | non => exact .non
  | bl b => exact .bl b
  | int i => exact .int i
  | str z => exact .str z
  | lst m _ => exact .lst m
  | tup m _ => exact .tup m
end Hz
namespace Hz
open PySem PySem.Spec PyProof.Rows L2 RZ
section
variable {L R' : Lg} {σ σ0 : SS} {g : TG} {tt : TT} {te : TE} {vs : List Nat} {Q : VK}
theorem take_more {α : Type} {R : List α} {i : Nat} {v : α} (h : R[i]? = some v) : R.take (i + 1) = R.take i ++ [v] := by
  rw [List.take_add_one, h]; rfl
/-- a comprehension that keeps every item, its elements told by a list -/
def lcMp (L : Lg) (R : List V) (D : Addr) (i : Nat) : Hp → Prop := lcNx (fun _ (_ : Unit) => L) (fun i _ => R.take i) (fun _ _ => True) D i
theorem t_lcMp {D : Addr} {i : Nat} {v : V} {R : List V} {M : Lg} {R2 : Lg} (hp : Pick D (.lst (R.take i)) M R2) (hv : R[i]? = some v) (hz : R.length ≤ sizeLine) (hM : Sub R2 L) : Tr M fun H => lcAdd D (lcMp L R D (i + 1)) v H := by
  refine t_lcAdd () trivial hp ?_ (take_more hv).symm hM
  have := (List.getElem?_eq_some_iff.mp hv).1
  rw [List.length_take]
  omega
theorem t_lcMap {J : It} {n : Nat} {val : Nat → V → Lg → Prop} {Src : Lg → Prop} (wk : Wk J n val Src) (hw : wipe σ vs = σ0) (R : List V) (hR : R.length = n) (hsrc : ∀ x, Src (x :: L))
    (hs : ∀ D i v L', i < n → val i v L' → Tr (L' ++ (D, .lst (R.take i)) :: L) fun H => g v σ0 H fun σ2 H2 => wipe σ2 vs = σ0 ∧ tt σ2 H2 fun b H3 => if b = true then te σ2 H3 (lcAdd D (lcMp L R D (i + 1))) else lcMp L R D (i + 1) H3)
    (hd : ∀ D, Tr ((D, .lst R) :: L) fun H => Q (.ref D) H) : Tr L fun H => lcK g tt te vs σ Q J H :=
  t_lcK wk hw (fun _ (_ : Unit) => L) (fun i _ => R.take i) (fun _ _ => True) ⟨(), trivial, rfl, .refl⟩ (fun D i y _ => hsrc _) (fun D i y v L' hi _ hv => hs D i v L' hi hv) fun D y _ => by
    rw [show R.take n = R from List.take_of_length_le (by omega)]
    exact hd D
theorem InL.cons {a : Addr} {xs : List V} {x : Addr × HO} (h : InL a xs L) : InL a xs (x :: L) := let ⟨_, p⟩ := h; ⟨_, p.tail⟩
theorem InT.cons {a : Addr} {xs : List V} {x : Addr × HO} (h : InT a xs L) : InT a xs (x :: L) := let ⟨_, p⟩ := h; ⟨_, p.tail⟩
theorem InL.of {a : Addr} {xs : List V} (h : (a, .lst xs) ∈ L) : InL a xs L := Pick.of_mem h
theorem InT.of {a : Addr} {xs : List V} (h : (a, .tup xs) ∈ L) : InT a xs L := Pick.of_mem h
/-- a list's text in the ledger is told otherwise -/
theorem Tr.lcast {a : Addr} {xs ys : List V} {G : Hp → Prop} (e : xs = ys) (t : Tr ((a, .lst ys) :: L) G) : Tr ((a, .lst xs) :: L) G := by rw [e]; exact t
end
end Hz
namespace Hz
open PySem PySem.Spec PyProof.Rows L2 RZ
section
variable {K : PySem.W.Frag} {h : Heap} {mg : Str → Option Value}
/-- a def as the head tells it -/
theorem df_mk (X : K.In h) (G : h.Ns mainGlobals mg) {x : Str} {st : Stmt} {f : Addr} {od an : Option Addr} {sl : Array (Option Value)} {oc kV dc pm cd ct : Value}
    (a : PySem.W.nsIn K mainGlobals x = some (some (.ref f))) (l : K.lookup f = some ⟨oc, od, .func (PySem.W.fnOf x x (defArgs st) (defBody st) (defScope st) .none kV dc pm an cd ct), sl⟩)
    (c : PySem.W.codeIn K cd x = true) (k : PySem.W.keepIn K (.ref f) = true) : Df K mg x st := ⟨f, _, PySem.W.mg_of X G a, fun_mk l c k⟩
theorem gv_mk (X : K.In h) (G : h.Ns mainGlobals mg) {x : Str} {v : V} {u : Value} (a : PySem.W.nsIn K mainGlobals x = some (some u)) (r : RelV v u) : GV mg x v := ⟨u, PySem.W.mg_of X G a, r⟩
theorem no_mk (X : K.In h) (G : h.Ns mainGlobals mg) {x : Str} (a : PySem.W.nsIn K mainGlobals x = some none) : mg x = none := PySem.W.mg_none_of X G a
end
end Hz

namespace Hz
open PySem PySem.Spec PyProof.Rows L2 RZ
/-! ### keywords -/
/-- the values by place, if they are m and n -/
def gP {α : Type} (m n : Nat) (is : List Nat) (us ws : List α) : List α := bif us.length == m && ws.length == n then is.filterMap fun i => (us ++ ws)[i]? else []
theorem vals_get {vs : List V} {us : List Value} (r : Vals vs us) : ∀ i : Nat, (∃ v u, vs[i]? = some v ∧ us[i]? = some u ∧ RelV v u) ∨ (vs[i]? = none ∧ us[i]? = none) := by
  induction r with
  | nil => intro i; exact .inr ⟨rfl, rfl⟩
  | cons h _ ih =>
    intro i
    cases i with
    | zero => exact .inl ⟨_, _, rfl, rfl, h⟩
    | succ i => simpa using ih i
theorem gP_rel (m n : Nat) (is : List Nat) {vs : List V} {us : List Value} {zs : List V} {ws : List Value} (r : Vals vs us) (q : Vals zs ws) : Vals (gP m n is vs zs) (gP m n is us ws) := by
  unfold gP
  rw [r.length, q.length]
  cases (us.length == m && ws.length == n) with
  | false => exact .nil
  | true =>
    have a := vals_get (r.append q)
    simp only [cond_true]
    induction is with
    | nil => exact .nil
    | cons i is ih =>
      rw [List.filterMap_cons, List.filterMap_cons]
      rcases a i with ⟨v, u, h1, h2, h3⟩ | ⟨h1, h2⟩
      · rw [h1, h2]; exact .cons h3 ih
      · rw [h1, h2]; exact ih
def tCallGK (sp : Sp) (m n : Nat) (is : List Nat) (E : L2.St → XK) (t tk : TA) : TE := fun σ H Q => t σ H fun vs H1 => tk σ H1 fun zs H2 => sp (gP m n is vs zs) H2 Q (E σ)
section
variable {X : Cx} {CX : CXT} {k : Nat} {ps ks : List Str} {sp : Sp} {E : L2.St → XK} {x : Str} {p pos : Pos} {e : Expr} {es : List Expr} {kws : List Keyword} {t tk : TA} {st : Stmt} {m n : Nat} {is : List Nat}
theorem run_GK {pins : List (Addr × Obj)} {σ : L2.St} {H : Hp} {s : Shared} {Q : VK} {us ws : List Value} {vs zs : List V} {f : Addr} {fd : FuncData} (F : FnG X.prog X.w X.K X.mg X.base CX k f fd ps sp) (hr : RoomG k X.A)
    (hb : (gP m n is us ws).length = ps.length → BindsTo s fd ⟨us, ks.zip ws⟩ (ps.zip (gP m n is us ws))) (hx : PassesAt CX X σ (E σ)) (I : Inv X pins σ H s) (r : Vals vs us) (rz : Vals zs ws) (h : sp (gP m n is vs zs) H Q (E σ)) :
    wpAny (model X.prog X.w) X.A (call (.ref f) us (ks.zip ws)) (EP X pins σ Q) X.xe s := by
  have r2 := gP_rel m n is r rz
  have hl : (gP m n is us ws).length = ps.length := by rw [← r2.length]; exact F.len _ _ _ _ h
  refine wpAny_call (codeAny_mono (F.run X.A X.stack s H ⟨us, ks.zip ws⟩ _ _ Q (E σ) hr I.env0 (hb hl) r2 h) fun r s' hq => ?_)
  match r, hq with
  | .error e, hq => exact hx pins H s e s' I hq
  | .ok (.ret u), hq => exact I.after hq
  | .ok .next, hq => exact hq.elim
  | .ok .brk, hq => exact hq.elim
  | .ok .cont, hq => exact hq.elim
theorem gP_shape {α : Type} {us ws : List α} {k : Nat} (h : (gP m n is us ws).length = k + 1) : us.length = m ∧ ws.length = n := by
  unfold gP at h
  cases e : (us.length == m && ws.length == n) with
  | true =>
    rw [Bool.and_eq_true, beq_iff_eq, beq_iff_eq] at e
    exact e
  | false => rw [e] at h; cases h
/-- f(e, .., a = v, ..) -/
theorem pe_callGK (D : Df X.K X.mg x st) (F : Ok X.prog X.w X.K X.mg X.base CX k x ps sp) (hr : RoomG k X.A) (hx : ∀ σ, PassesAt CX X σ (E σ)) (m n : Nat) (is : List Nat) (ks : List Str) (hps : ∃ k, ps.length = k + 1)
    (hb : ∀ (kV doc pm : Value) (an : Option Addr) (cdv ct : Value) (us ws : List Value), us.length = m → ws.length = n → bindArgs (PySem.W.fnOf x x (defArgs st) (defBody st) (defScope st) .none kV doc pm an cdv ct) ⟨us, ks.zip ws⟩ = pure (ps.zip (gP m n is us ws)))
    (ha : PA X (e :: es) t) (hkw : PK X kws tk) (hg : Gl X x := by rfl) (hall : (backToKw pos (keywordEach kws X.env)).all (·.1.isSome) = true := by rfl) (hks : (backToKw pos (keywordEach kws X.env)).filterMap (·.1) = ks := by rfl)
    (hdb : (x == ("__debug__" : Str)) = false := by decide) (he : starEach (e :: es) X.env = (false, eval e X.env) :: starEach es X.env := by rfl)
    (hpl : ((backTo pos (starEach (e :: es) X.env)).any (·.1) || (backToKw pos (keywordEach kws X.env)).any (·.1.isNone)) = false := by rfl) : PE X (.Call (.Name x p) (e :: es) kws pos) (tCallGK sp m n is E t tk) := by
  obtain ⟨f, fd, hm, hk, _, F, oc, od, osl, lk⟩ := F
  obtain ⟨f', fd', hm', G⟩ := D
  obtain ⟨oc', od', kV, doc, pm, an, cdv, ct, osl', rfl, lk', hcd⟩ := G.ex
  rw [hm] at hm'
  cases hm'
  rw [lk] at lk'
  cases lk'
  refine ⟨fun pins s σ H Q I h => wpAny_Call_Name_kw (ld_glob I hg hm (PySem.W.callWith_KW (h₀ := X.base) I.ok.mod.kin hk hall ?_ hpl he) hdb)⟩
  refine thn (ha.run pos pins s σ H _ I h) fun us s1 ⟨vs, H1, I1, r, q⟩ => ?_
  refine thn (hkw.run pos pins s1 σ H1 _ I1 q) fun ws s2 ⟨zs, H2, I2, rz, q2⟩ => ⟨I2.kIn, ?_⟩
  rw [hks]
  refine run_GK F hr (fun hl => ?_) (hx σ) I2 r rz q2
  obtain ⟨k, ek⟩ := hps
  obtain ⟨h1, h2⟩ := gP_shape (hl.trans ek)
  exact .of_eq (hb kV doc pm an cdv ct us ws h1 h2)
/-- f(a = v, ..) -/
theorem pe_callGK0 (D : Df X.K X.mg x st) (F : Ok X.prog X.w X.K X.mg X.base CX k x ps sp) (hr : RoomG k X.A) (hx : ∀ σ, PassesAt CX X σ (E σ)) (n : Nat) (is : List Nat) (ks : List Str) (hps : ∃ k, ps.length = k + 1)
    (hb : ∀ (kV doc pm : Value) (an : Option Addr) (cdv ct : Value) (us ws : List Value), us.length = 0 → ws.length = n → bindArgs (PySem.W.fnOf x x (defArgs st) (defBody st) (defScope st) .none kV doc pm an cdv ct) ⟨us, ks.zip ws⟩ = pure (ps.zip (gP 0 n is us ws)))
    (hkw : PK X kws tk) (hg : Gl X x := by rfl) (hall : (backToKw pos (keywordEach kws X.env)).all (·.1.isSome) = true := by rfl) (hks : (backToKw pos (keywordEach kws X.env)).filterMap (·.1) = ks := by rfl)
    (hdb : (x == ("__debug__" : Str)) = false := by decide)
    (hpl : ((backTo pos (starEach [] X.env)).any (·.1) || (backToKw pos (keywordEach kws X.env)).any (·.1.isNone)) = false := by rfl) : PE X (.Call (.Name x p) [] kws pos) (tCallGK sp 0 n is E tNil tk) := by
  obtain ⟨f, fd, hm, hk, _, F, oc, od, osl, lk⟩ := F
  obtain ⟨f', fd', hm', G⟩ := D
  obtain ⟨oc', od', kV, doc, pm, an, cdv, ct, osl', rfl, lk', hcd⟩ := G.ex
  rw [hm] at hm'
  cases hm'
  rw [lk] at lk'
  cases lk'
  refine ⟨fun pins s σ H Q I h => wpAny_Call_Name_kw (ld_glob I hg hm (PySem.W.callWith_KW0 (h₀ := X.base) I.ok.mod.kin hk hall ?_ hpl) hdb)⟩
  refine thn (hkw.run pos pins s σ H _ I h) fun ws s2 ⟨zs, H2, I2, rz, q2⟩ => ⟨I2.kIn, ?_⟩
  rw [hks]
  refine run_GK (us := []) F hr (fun hl => ?_) (hx σ) I2 .nil rz q2
  obtain ⟨k, ek⟩ := hps
  obtain ⟨h1, h2⟩ := gP_shape (hl.trans ek)
  exact .of_eq (hb kV doc pm an cdv ct [] ws h1 h2)
end
section
variable {L : Lg} {σ : SS} {Q : VK} {t tk : TA} {sp : Sp} {E : SS → XK} {m n : Nat} {is : List Nat}
theorem t_callGK (k : Tr L fun H => t σ H fun vs H1 => tk σ H1 fun zs H2 => sp (gP m n is vs zs) H2 Q (E σ)) : Tr L fun H => tCallGK sp m n is E t tk σ H Q := k
end
end Hz

/-! Hz, part O: lists of ints, their texts; numbers' sizes. -/
namespace Hz
open PySem PySem.Spec PyProof.Rows L2 RZ
/-! ### sizes -/
theorem bits_le {i : Int} {N : Nat} (h0 : 1 ≤ N) (h : i.natAbs < 2 ^ N) : Builtin.Int.intBits i ≤ N := by
  have := PySem.Flt.log2_lt_of h0 h
  unfold Builtin.Int.intBits
  split <;> omega
theorem natAbs_lt {i : Int} {b : Nat} (h1 : -(b : Int) < i) (h2 : i < b) : i.natAbs < b := by omega
theorem pow_ok {i j : Int} (N : Nat) (h0 : 1 ≤ N) (h1 : i.natAbs < 2 ^ N) (h2 : 0 ≤ j) (h3 : (N : Int) * j ≤ 134217728) : cPow i j := by
  refine ⟨h2, ?_⟩
  have h := bits_le h0 h1
  have h4 : (Builtin.Int.intBits i : Int) * j ≤ (N : Int) * j := Int.mul_le_mul_of_nonneg_right (by omega) h2
  have e : (2 : Int) ^ 27 = 134217728 := by decide
  rw [e]; omega
theorem mul_ok {i j : Int} (M N : Nat) (h0 : 1 ≤ M) (h1 : 1 ≤ N) (hi : i.natAbs < 2 ^ M) (hj : j.natAbs < 2 ^ N) (h : M + N ≤ 1000000) : cMul i j := .inr (.inr (wide_mul hi hj h0 h1 h))
theorem div_ok {i j : Int} (N : Nat) (h0 : 1 ≤ N) (h1 : 0 < j) (h2 : j.natAbs < 2 ^ N) (h : N ≤ 9000) : CDivW i j := wide_div h1 h2 h0 h
/-! ### lists of ints by place -/
theorem at_mem {ns : List Int} {i : Int} (h0 : 0 ≤ i) (h1 : i < ns.length) : ∃ n, atI (ns.map V.int) i = some (.int n) ∧ n ∈ ns ∧ ns[i.toNat]? = some n := by
  obtain ⟨j, rfl⟩ : ∃ j : Nat, i = (j : Int) := ⟨i.toNat, by omega⟩
  have hl : j < ns.length := by omega
  refine ⟨ns[j], atI_nat ?_, List.getElem_mem hl, by rw [Int.toNat_natCast, List.getElem?_eq_getElem hl]⟩
  rw [List.getElem?_map, List.getElem?_eq_getElem hl]; rfl
theorem at_int {ns : List Int} {i : Nat} {n : Int} (h : ns[i]? = some n) : atI (ns.map V.int) (i : Int) = some (.int n) := atI_nat (get_mapI h)
where get_mapI {ns : List Int} {i : Nat} {n : Int} (h : ns[i]? = some n) : (ns.map V.int)[i]? = some (.int n) := by rw [List.getElem?_map, h]; rfl
theorem at_lastI (ns : List Int) (n : Int) : atI ((ns ++ [n]).map V.int) (-1) = some (.int n) := by
  rw [List.map_append]; exact atI_last _ _
/-! ### chains -/
def chainI : Int → List Int → Prop
  | _, [] => True
  | b, d :: r => 0 ≤ d ∧ d ≤ b + 1 ∧ chainI d r
def lastD (b : Int) : List Int → Int
  | [] => b
  | d :: r => lastD d r
theorem chainI_append : ∀ (b : Int) (xs ys : List Int), chainI b (xs ++ ys) ↔ chainI b xs ∧ chainI (lastD b xs) ys
  | b, [], ys => by simp [chainI, lastD]
  | b, d :: r, ys => by
    show (0 ≤ d ∧ d ≤ b + 1 ∧ chainI d (r ++ ys)) ↔ (0 ≤ d ∧ d ≤ b + 1 ∧ chainI d r) ∧ chainI (lastD d r) ys
    rw [chainI_append d r ys]
    constructor
    · rintro ⟨h1, h2, h3, h4⟩; exact ⟨⟨h1, h2, h3⟩, h4⟩
    · rintro ⟨⟨h1, h2, h3⟩, h4⟩; exact ⟨h1, h2, h3, h4⟩
theorem lastD_append : ∀ (b : Int) (xs : List Int) (d : Int), lastD b (xs ++ [d]) = d
  | _, [], _ => rfl
  | _, e :: r, d => lastD_append e r d
theorem chainI_bounds : ∀ (b : Int) (xs : List Int), chainI b xs → ∀ (i : Nat) (d : Int), xs[i]? = some d → 0 ≤ d ∧ d ≤ b + 1 + i
  | b, e :: r, h, 0, d, q => by
    cases q
    exact ⟨h.1, by have := h.2.1; omega⟩
  | b, e :: r, h, i + 1, d, q => by
    have := chainI_bounds e r h.2.2 i d (by simpa using q)
    have := h.2.1
    omega
theorem chainI_take : ∀ (b : Int) (xs : List Int) (n : Nat), chainI b xs → chainI b (xs.take n)
  | _, [], n, _ => by rw [List.take_nil]; trivial
  | _, _ :: _, 0, _ => trivial
  | _, d :: r, n + 1, h => ⟨h.1, h.2.1, chainI_take d r n h.2.2⟩
/-! ### the text of a list of ints -/
def reprI (ns : List Int) : Str := (PyData.list (ns.map PyData.int)).shown
theorem shownAll_map (ns : List Int) : PyData.shownAll (ns.map PyData.int) = ns.map fun n => (toString n : Str) := by
  induction ns with
  | nil => simp only [List.map_nil, PyData.shownAll]
  | cons n r ih => simp only [List.map_cons, PyData.shownAll, PyData.shown, ih]
theorem showableAll_map {ns : List Int} (h : ∀ n ∈ ns, n.natAbs < 2 ^ 1000) : PyData.showableAll (ns.map PyData.int) = true := by
  induction ns with
  | nil => simp only [List.map_nil, PyData.showableAll]
  | cons n r ih =>
    have := PySem.Flt.log2_lt_of (by decide : 0 < 1000) (h n (.head _))
    simp only [List.map_cons, PyData.showableAll, PyData.showable, ih fun m hm => h m (.tail _ hm), Bool.and_true, decide_eq_true_eq]
    omega
theorem int_len {n : Int} (h : n.natAbs < 2 ^ 1000) : ((toString n : Str)).length ≤ 1001 := by
  rw [PySem.ofString_length]
  exact int_text_length_le (by decide) (PySem.Flt.log2_lt_of (by decide : 0 < 1000) h)
theorem sum_le_len : ∀ (l : List Nat) (k : Nat), (∀ x ∈ l, x ≤ k) → l.sum ≤ l.length * k
  | [], _, _ => by simp
  | x :: r, k, h => by
    have h1 := sum_le_len r k fun y hy => h y (.tail _ hy)
    have h2 := h x (.head _)
    rw [List.sum_cons, List.length_cons, Nat.add_mul]
    omega
theorem reprI_len {ns : List Int} (h : ∀ n ∈ ns, n.natAbs < 2 ^ 1000) (hl : ns.length ≤ 16000) : (reprI ns).length ≤ sizeLine := by
  have h1 := listText_len_le (PyData.shownAll (ns.map PyData.int))
  have h2 : ((PyData.shownAll (ns.map PyData.int)).map (·.length)).sum ≤ ns.length * 1001 := by
    rw [shownAll_map, List.map_map]
    have := sum_le_len (ns.map ((fun x : Str => x.length) ∘ fun n : Int => (toString n : Str))) 1001 (fun x hx => by
      obtain ⟨n, hn, rfl⟩ := List.mem_map.mp hx
      exact int_len (h n hn))
    rwa [List.length_map] at this
  have h3 : (PyData.shownAll (ns.map PyData.int)).length = ns.length := by rw [shownAll_map, List.length_map]
  unfold reprI
  rw [PyData.shown, sizeLine_eq]
  omega
theorem depthAll_ints : ∀ ns : List Int, PyData.depthAll (ns.map PyData.int) = 0
  | [] => by simp only [List.map_nil, PyData.depthAll]
  | n :: r => by simp only [List.map_cons, PyData.depthAll, PyData.depth, depthAll_ints r, Nat.max_self]
theorem t_reprI {K : PySem.W.Frag} {L : Lg} {Q : VK} {a : Addr} {ns : List Int} (hm : (a, .lst (ns.map V.int)) ∈ L) (h : ∀ n ∈ ns, n.natAbs < 2 ^ 1000) (hl : ns.length ≤ 16000)
    (k : Tr L fun H => Q (.str (reprI ns)) H) : Tr L fun H => rRepr K [.ref a] H Q :=
  t_repr (Dt.ints hm).dpl (by simp only [PyData.showable]; exact showableAll_map h) (by simp only [PyData.depth, depthAll_ints]; decide) (reprI_len h hl) k
/-- == of two lists of ints -/
theorem eqv_ints : ∀ (xs ys : List Int), PyData.eqv (.list (xs.map PyData.int)) (.list (ys.map PyData.int)) = decide (xs = ys) := by
  have all : ∀ (xs ys : List Int), PyData.eqvAll (xs.map PyData.int) (ys.map PyData.int) = decide (xs = ys) := by
    intro xs
    induction xs with
    | nil => intro ys; cases ys <;> simp [PyData.eqvAll]
    | cons x r ih =>
      intro ys
      cases ys with
      | nil => simp [PyData.eqvAll]
      | cons y s => simp only [List.map_cons, PyData.eqvAll, PyData.eqv, ih, List.cons.injEq, Bool.decide_and]; rfl
  intro xs ys
  simp only [PyData.eqv, all]
theorem shaped_ints (ns : List Int) : SeqAt.shaped (.list (ns.map PyData.int)) = true := by
  have c : ∀ ns : List Int, PyData.canLayAll0 (ns.map PyData.int) = true := by
    intro ns
    induction ns with
    | nil => simp [PyData.canLayAll0]
    | cons n r ih => simp [PyData.canLayAll0, PyData.canLay0, ih]
  unfold SeqAt.shaped
  simp [PyData.canLay0, c, PyData.depth, depthAll_ints]
theorem t_eqInts {K : PySem.W.Frag} {L : Lg} {Q : VK} {a b : Addr} {xs ys : List Int} (ha : (a, .lst (xs.map V.int)) ∈ L) (hb : (b, .lst (ys.map V.int)) ∈ L) (k : Tr L fun H => Q (.bl (decide (xs = ys))) H) : Tr L fun H => rEqD K (.ref a) (.ref b) H Q :=
  t_eqD (Dt.ints ha).dpl (Dt.ints hb).dpl (shaped_ints xs) (shaped_ints ys) (by rw [eqv_ints]; exact k)
end Hz
namespace Hz
open PySem PySem.Spec PyProof.Rows L2 RZ
theorem at_lastD {ns : List Int} (b : Int) (h : 1 ≤ ns.length) : atI (ns.map V.int) (-1) = some (.int (lastD b ns)) := by
  obtain ⟨l, x, rfl⟩ : ∃ l x, ns = l ++ [x] := ⟨ns.dropLast, ns.getLast (by intro e; subst e; simp at h), (List.dropLast_concat_getLast _).symm⟩
  rw [lastD_append]
  exact at_lastI l x
theorem lastD_bound : ∀ (b : Int) (ns : List Int), chainI b ns → 1 ≤ ns.length → 0 ≤ lastD b ns ∧ lastD b ns ≤ b + ns.length
  | b, [], _, h => by simp at h
  | b, [d], h, _ => by
    have := h.1; have := h.2.1
    show 0 ≤ d ∧ d ≤ b + ((1 : Nat) : Int)
    omega
  | b, d :: e :: r, h, _ => by
    have ih := lastD_bound d (e :: r) h.2.2 (by simp)
    have := h.2.1
    show 0 ≤ lastD d (e :: r) ∧ lastD d (e :: r) ≤ b + (((e :: r).length + 1 : Nat) : Int)
    omega
theorem map_snoc (ns : List Int) (n : Int) : ns.map V.int ++ [V.int n] = (ns ++ [n]).map V.int := by rw [List.map_append]; rfl
end Hz
namespace Hz
open PySem PySem.Spec PyProof.Rows L2 RZ
theorem depthAll_le : ∀ {ds : List PyData} {d : PyData}, d ∈ ds → d.depth ≤ PyData.depthAll ds
  | e :: r, d, h => by
    rw [PyData.depthAll]
    rcases List.mem_cons.mp h with rfl | h
    · exact Nat.le_max_left _ _
    · exact Nat.le_trans (depthAll_le h) (Nat.le_max_right _ _)
end Hz
namespace Hz
open PySem PySem.Spec PyProof.Rows L2
/-- a, a + 1, .. below b -/
def rgI (a b : Int) : List Int := (List.range (b - a).toNat).map fun i => a + (i : Nat)
theorem rgV_ints (a b : Int) : rgV a b = (rgI a b).map V.int := by unfold rgV rgI; rw [List.map_map]; rfl
theorem rgI_len (a b : Int) : (rgI a b).length = (b - a).toNat := by unfold rgI; rw [List.length_map, List.length_range]
theorem rgI_get {a b : Int} {i : Nat} (h : i < (b - a).toNat) : (rgI a b)[i]? = some (a + i) := by
  unfold rgI
  rw [List.getElem?_map, List.getElem?_range h]; rfl
theorem rep_ints (k : Nat) (n : Int) : (List.replicate k [V.int n]).flatten = (List.replicate k n).map V.int := by
  induction k with
  | zero => rfl
  | succ k ih => rw [List.replicate_succ, List.flatten_cons, ih, List.replicate_succ, List.map_cons]; rfl
end Hz
namespace Hz
open PySem PySem.Spec PyProof.Rows L2 RZ
theorem last_get {ns : List Int} (b : Int) (h : 1 ≤ ns.length) : (ns.map V.int)[(ns.map V.int).length - 1]? = some (.int (lastD b ns)) := by
  obtain ⟨l, x, rfl⟩ : ∃ l x, ns = l ++ [x] := ⟨ns.dropLast, ns.getLast (by intro e; subst e; simp at h), (List.dropLast_concat_getLast _).symm⟩
  rw [lastD_append]
  simp
/-- xs.pop() of ints -/
theorem t_popI {L R : Lg} {Q : VK} {p : Addr} {ns : List Int} (hp : Pick p (.lst (ns.map V.int)) L R) (h : 1 ≤ ns.length) (k : Tr ((p, .lst (ns.dropLast.map V.int)) :: R) fun H => Q (.int (lastD (-1) ns)) H) : Tr L fun H => rPop (.ref p) [] H Q :=
  t_popM hp (last_get (-1) h) (Tr.lcast List.map_dropLast.symm k)
/-- xs.append(n) of ints -/
theorem t_appI {L R : Lg} {Q : VK} {p : Addr} {ns : List Int} {n : Int} (hp : Pick p (.lst (ns.map V.int)) L R) (h : ns.length < sizeLine) (k : Tr ((p, .lst ((ns ++ [n]).map V.int)) :: R) fun H => Q .non H) : Tr L fun H => rAppend (.ref p) [.int n] H Q :=
  t_append hp (by rw [List.length_map]; exact h) (Tr.lcast (map_snoc ns n) k)
end Hz
namespace Hz
open PySem PySem.Spec PyProof.Rows L2 RZ
/-! ### the law's own list, read -/
/-- wherever the ledger stands, the law's list is at a -/
def Scr (K : PySem.W.Frag) (L : Lg) (a : Addr) (ns : List Int) : Prop := ∀ H, Led H L → ScrL K H a (ns.map V.int)
theorem Scr.mono {K : PySem.W.Frag} {L M : Lg} {a : Addr} {ns : List Int} (h : Scr K L a ns) (s : ∀ {H}, Led H M → Led H L) : Scr K M a ns := fun H l => h H (s l)
theorem Scr.cons {K : PySem.W.Frag} {L : Lg} {x : Addr × HO} {a : Addr} {ns : List Int} (h : Scr K L a ns) : Scr K (x :: L) a ns := h.mono Led.tail
theorem scr_start {K : PySem.W.Frag} {H : Hp} {a : Addr} {ns : List Int} (h : ScrL K H a (ns.map V.int)) : ∃ L, Led H L ∧ Scr K L a ns := by
  obtain ⟨its, r, z, h | h⟩ := h
  · refine ⟨[(a, .frz { cls := .type "list", data := .seq its.toArray } (.lst (ns.map V.int)))], ⟨fun p hp => ?_, by simp⟩, fun H l => ⟨its, r, z, .inl (l.has _ (.head _))⟩⟩
    rw [List.mem_singleton.mp hp]
    exact h
  · exact ⟨[], .nil, fun H _ => ⟨its, r, z, .inr h⟩⟩
section
variable {L R : Lg} {Q : VK} {K : PySem.W.Frag} {a b : Addr} {ns : List Int} {ys : List V}
theorem t_lenSc (h : Scr K L a ns) (k : Tr L fun H => Q (.int ns.length) H) : Tr L fun H => rLen K [.ref a] H Q := fun H l => ⟨_, _, rfl, .inl ⟨_, (h H l).sq, by rw [List.length_map]⟩, k H l⟩
theorem t_catSc (h : Scr K L a ns) (hp : Pick b (.lst ys) L R) (hz : ns.length + ys.length ≤ sizeLine) (k : ∀ p, Tr ((p, .lst (ns.map V.int ++ ys)) :: L) fun H => Q (.ref p) H) : Tr L fun H => rCatS K (.ref a) (.ref b) H Q :=
  fun H l => ⟨a, b, _, ys, rfl, rfl, h H l, l.get hp, by rw [List.length_map]; exact hz, fun p hp' => k p _ (l.new hp')⟩
theorem t_slSc {lo hi : Option Int} (h : Scr K L a ns) (k : ∀ p, Tr ((p, .lst (cutV (ns.map V.int) lo hi)) :: L) fun H => Q (.ref p) H) : Tr L fun H => rSlL K (.ref a) lo hi H Q := fun H l => ⟨a, _, rfl, (h H l).sq, fun p hp' => k p _ (l.new hp')⟩
theorem t_ixSc {m : Int} {v : V} (h : Scr K L a ns) (ha : atI (ns.map V.int) m = some v) (k : Tr L fun H => Q v H) : Tr L fun H => rIxL K (.ref a) (.int m) H Q := fun H l => ⟨a, _, m, v, rfl, rfl, (h H l).sq, ha, k H l⟩
theorem dpl_sc (h : Scr K L a ns) : DpL K L (.ref a) (.list (ns.map PyData.int)) := fun H l => .lst (h H l).sq (dpAll_ints ns)
/-- script == [] -/
theorem t_eqSc {zs : List Int} (h : Scr K L a ns) (hb : (b, .lst (zs.map V.int)) ∈ L) (k : Tr L fun H => Q (.bl (decide (ns = zs))) H) : Tr L fun H => rEqD K (.ref a) (.ref b) H Q :=
  t_eqD (dpl_sc h) (Dt.ints hb).dpl (shaped_ints ns) (shaped_ints zs) (by rw [eqv_ints]; exact k)
theorem t_neSc {zs : List Int} (h : Scr K L a ns) (hb : (b, .lst (zs.map V.int)) ∈ L) (k : Tr L fun H => Q (.bl (!decide (ns = zs))) H) : Tr L fun H => rNeD K (.ref a) (.ref b) H Q :=
  t_neD (dpl_sc h) (Dt.ints hb).dpl (shaped_ints ns) (shaped_ints zs) (by rw [eqv_ints]; exact k)
end
/-- a slice of ints -/
def cutI (ns : List Int) (lo hi : Option Int) : List Int := (ns.drop (HT.sIx ns.length 0 lo)).take (HT.sIx ns.length ns.length hi - HT.sIx ns.length 0 lo)
theorem cut_ints (ns : List Int) (lo hi : Option Int) : cutV (ns.map V.int) lo hi = (cutI ns lo hi).map V.int := by
  unfold cutV cutI
  rw [List.length_map, List.map_take, List.map_drop]
theorem cutI_len (ns : List Int) (lo hi : Option Int) : (cutI ns lo hi).length ≤ ns.length := by
  unfold cutI
  rw [List.length_take, List.length_drop]; omega
theorem cutI_mem {ns : List Int} {lo hi : Option Int} {n : Int} (h : n ∈ cutI ns lo hi) : n ∈ ns := List.mem_of_mem_drop (List.mem_of_mem_take h)
end Hz

/-! Hz, part F: ints by place; filtered comprehensions; members; a list's places. -/
namespace Hz
open PySem PySem.Spec PyProof.Rows L2 RZ
/-! ### ints by place -/
/-- the i-th of ns -/
def atD (ns : List Int) (i : Int) : Int := ns.getD i.toNat 0
theorem atD_get {ns : List Int} {i : Int} (h0 : 0 ≤ i) (h1 : i < ns.length) : ns[i.toNat]? = some (atD ns i) := by
  unfold atD
  rw [List.getD_eq_getElem?_getD, List.getElem?_eq_getElem (by omega : i.toNat < ns.length)]; rfl
theorem atD_nat {ns : List Int} {i : Nat} {d : Int} (h : ns[i]? = some d) : atD ns (i : Int) = d := by
  unfold atD
  rw [Int.toNat_natCast, List.getD_eq_getElem?_getD, h]; rfl
theorem atD_at {ns : List Int} {i : Int} (h0 : 0 ≤ i) (h1 : i < ns.length) : atI (ns.map V.int) i = some (.int (atD ns i)) := by
  have h := atI_nat (α := V) (xs := ns.map V.int) (j := i.toNat) (v := .int (atD ns i)) (by rw [List.getElem?_map, atD_get h0 h1]; rfl)
  rwa [Int.toNat_of_nonneg h0] at h
theorem map_erase {α β : Type} {f : α → β} : ∀ (ns : List α) (k : Nat), (ns.eraseIdx k).map f = (ns.map f).eraseIdx k
  | [], _ => rfl
  | _ :: _, 0 => rfl
  | n :: r, k + 1 => by
    show f n :: (r.eraseIdx k).map f = f n :: (r.map f).eraseIdx k
    rw [map_erase r k]
theorem atD_mem {ns : List Int} {i : Int} (h0 : 0 ≤ i) (h1 : i < ns.length) : atD ns i ∈ ns := List.mem_of_getElem? (atD_get h0 h1)
section
variable {L R R' : Lg} {σ σ0 : SS} {Q : VK} {K : PySem.W.Frag} {a b p : Addr} {ns ms : List Int} {m n : Int}
theorem t_ixI (hp : Pick p (.lst (ns.map V.int)) L R) (h0 : 0 ≤ m) (h1 : m < ns.length) (k : Tr L fun H => Q (.int (atD ns m)) H) : Tr L fun H => rIxL K (.ref p) (.int m) H Q := t_ixL hp (atD_at h0 h1) k
theorem t_lenI (hp : Pick p (.lst (ns.map V.int)) L R) (k : Tr L fun H => Q (.int ns.length) H) : Tr L fun H => rLen K [.ref p] H Q := t_lenL hp (by rw [List.length_map]; exact k)
theorem t_slI {lo hi : Option Int} (hp : Pick a (.lst (ns.map V.int)) L R) (k : ∀ p, Tr ((p, .lst ((cutI ns lo hi).map V.int)) :: L) fun H => Q (.ref p) H) : Tr L fun H => rSlL K (.ref a) lo hi H Q := t_slL hp fun p => Tr.lcast (cut_ints ns lo hi) (k p)
theorem t_catI (hp : Pick a (.lst (ns.map V.int)) L R) (hq : Pick b (.lst (ms.map V.int)) L R') (hz : ns.length + ms.length ≤ sizeLine) (k : ∀ p, Tr ((p, .lst ((ns ++ ms).map V.int)) :: L) fun H => Q (.ref p) H) : Tr L fun H => rCat (.ref a) (.ref b) H Q :=
  t_cat hp hq (by rw [List.length_map, List.length_map]; exact hz) fun p => Tr.lcast List.map_append.symm (k p)
theorem t_revI (hp : Pick a (.lst (ns.map V.int)) L R) (k : ∀ p, Tr ((p, .lst (ns.reverse.map V.int)) :: L) fun H => Q (.ref p) H) : Tr L fun H => newRev K (.ref a) H Q := t_newRev hp fun p => Tr.lcast List.map_reverse.symm (k p)
theorem t_rgI {m n : Int} (h : RgOk m n) (k : ∀ p, Tr ((p, .lst ((rgI m n).map V.int)) :: L) fun H => Q (.ref p) H) : Tr L fun H => newRg m n H Q := t_newRg h fun p => Tr.lcast (rgV_ints m n) (k p)
theorem t_listI (hp : Pick a (.lst (ns.map V.int)) L R) (k : ∀ p, Tr ((p, .lst (ns.map V.int)) :: L) fun H => Q (.ref p) H) : Tr L fun H => rList K [.ref a] H Q := t_listL hp k
/-- a new list of ints, item by item -/
theorem t_newI (ns : List Int) (hz : ns.length ≤ sizeLine) (k : ∀ p, Tr ((p, .lst (ns.map V.int)) :: L) fun H => Q (.ref p) H) : Tr L fun H => newL (ns.map V.int) H Q := t_newL (by rw [List.length_map]; exact hz) k
theorem t_setI {i : Int} {v : Int} {G : Hp → Prop} (hp : Pick p (.lst (ns.map V.int)) L R) (h0 : 0 ≤ i) (h1 : i < ns.length) (k : Tr ((p, .lst ((ns.set i.toNat v).map V.int)) :: R) G) : Tr L fun H => rSetL (.ref p) (.int i) (.int v) H G :=
  t_setL (j := i.toNat) hp (by unfold ixN; rw [List.length_map]; first | rfl | (split <;> simp_all <;> omega)) (Tr.lcast List.map_set.symm k)
/-- n in xs, ints -/
theorem inV_ints (n : Int) : ∀ ns : List Int, inV (.int n) (ns.map V.int) = decide (n ∈ ns)
  | [] => rfl
  | m :: r => by
    have ih := inV_ints n r
    unfold inV at ih ⊢
    rw [List.map_cons, List.any_cons, ih]
    have e : eqV (.int m) (.int n) = decide (n = m) := by
      unfold eqV
      rw [Bool.eq_iff_iff, decide_eq_true_eq, beq_iff_eq]; exact eq_comm
    rw [e, ← Bool.decide_or]
    congr 1
    simp
theorem flat_ints (ns : List Int) : (ns.map V.int).all flatV = true := by
  induction ns with
  | nil => rfl
  | cons n r ih => rw [List.map_cons, List.all_cons, ih]; rfl
theorem t_inI (hp : Pick p (.lst (ns.map V.int)) L R) (k : Tr L fun H => Q (.bl (decide (n ∈ ns))) H) : Tr L fun H => rIn K false (.int n) (.ref p) H Q :=
  fun H l => ⟨p, _, rfl, .inl (sqL hp l), rfl, flat_ints ns, by rw [inV_ints]; exact k H l⟩
theorem t_notInI (hp : Pick p (.lst (ns.map V.int)) L R) (k : Tr L fun H => Q (.bl (!decide (n ∈ ns))) H) : Tr L fun H => rIn K true (.int n) (.ref p) H Q :=
  fun H l => ⟨p, _, rfl, .inl (sqL hp l), rfl, flat_ints ns, by rw [inV_ints]; exact k H l⟩
theorem t_neInts {xs ys : List Int} (ha : (a, .lst (xs.map V.int)) ∈ L) (hb : (b, .lst (ys.map V.int)) ∈ L) (k : Tr L fun H => Q (.bl (!decide (xs = ys))) H) : Tr L fun H => rNeD K (.ref a) (.ref b) H Q :=
  t_neD (Dt.ints ha).dpl (Dt.ints hb).dpl (shaped_ints xs) (shaped_ints ys) (by rw [eqv_ints]; exact k)
/-- tuples of ints -/
theorem eqv_intsT (xs ys : List Int) : PyData.eqv (.tuple (xs.map PyData.int)) (.tuple (ys.map PyData.int)) = decide (xs = ys) := by
  have h := eqv_ints xs ys
  simp only [PyData.eqv] at h ⊢
  exact h
theorem shaped_intsT (ns : List Int) : SeqAt.shaped (.tuple (ns.map PyData.int)) = true := by
  have c : ∀ ns : List Int, PyData.canLayAll0 (ns.map PyData.int) = true := by
    intro ns
    induction ns with
    | nil => simp [PyData.canLayAll0]
    | cons n r ih => simp [PyData.canLayAll0, PyData.canLay0, ih]
  unfold SeqAt.shaped
  simp [PyData.canLay0, c, PyData.depth, depthAll_ints]
theorem t_eqIntsT {xs ys : List Int} (ha : (a, .tup (xs.map V.int)) ∈ L) (hb : (b, .tup (ys.map V.int)) ∈ L) (k : Tr L fun H => Q (.bl (decide (xs = ys))) H) : Tr L fun H => rEqD K (.ref a) (.ref b) H Q :=
  t_eqD (Dt.intsT ha).dpl (Dt.intsT hb).dpl (shaped_intsT xs) (shaped_intsT ys) (by rw [eqv_intsT]; exact k)
theorem t_neIntsT {xs ys : List Int} (ha : (a, .tup (xs.map V.int)) ∈ L) (hb : (b, .tup (ys.map V.int)) ∈ L) (k : Tr L fun H => Q (.bl (!decide (xs = ys))) H) : Tr L fun H => rNeD K (.ref a) (.ref b) H Q :=
  t_neD (Dt.intsT ha).dpl (Dt.intsT hb).dpl (shaped_intsT xs) (shaped_intsT ys) (by rw [eqv_intsT]; exact k)
/-- xs.insert(i, y) -/
def rInsert : V → List V → Hp → VK → Prop := fun x vs H Q => ∃ (l : Addr) (xs : List V) (i : Int) (y : V), x = .ref l ∧ vs = [.int i, y] ∧ H l = some (.lst xs) ∧ xs.length < sizeLine ∧ 0 ≤ i ∧ i < 2 ^ 63 ∧
    Q .non (upd H l (.lst (xs.take i.toNat ++ [y] ++ xs.drop i.toNat)))
theorem mt_ins {X : Cx} : MtR X "list.insert" rInsert := mt_insert
theorem t_insI {i v : Int} (hp : Pick p (.lst (ns.map V.int)) L R) (hz : ns.length < sizeLine) (h0 : 0 ≤ i) (h1 : i < 2 ^ 63) (k : Tr ((p, .lst ((ns.take i.toNat ++ [v] ++ ns.drop i.toNat).map V.int)) :: R) fun H => Q .non H) : Tr L fun H => rInsert (.ref p) [.int i, .int v] H Q :=
  fun H l => ⟨p, _, i, _, rfl, rfl, l.get hp, by rw [List.length_map]; exact hz, h0, h1, by
    have := k _ (l.pick hp).put
    rw [List.map_append, List.map_append, List.map_take, List.map_drop] at this
    exact this⟩
theorem t_popAtI {i : Int} (hp : Pick p (.lst (ns.map V.int)) L R) (h0 : 0 ≤ i) (h1 : i < ns.length) (h2 : ns.length ≤ sizeLine) (k : Tr ((p, .lst ((ns.eraseIdx i.toNat).map V.int)) :: R) fun H => Q (.int (atD ns i)) H) : Tr L fun H => rPopAt (.ref p) [.int i] H Q :=
  fun H l => ⟨p, _, i, i.toNat, .int (atD ns i), rfl, rfl, l.get hp, by omega, by rw [sizeLine_eq] at h2; omega, by
    unfold seqIndex?
    rw [List.length_map]
    simp only [show ¬ i < 0 by omega, if_false]
    rw [if_pos (by simp; omega)], by rw [List.getElem?_map, atD_get h0 h1]; rfl, by
    have := k _ (l.pick hp).put
    rwa [map_erase] at this⟩
end
section
variable {L : Lg} {G1 G2 : Hp → Prop} {c : Prop} [Decidable c]
theorem t_ifDT (h : c) (k : Tr L G1) : Tr L fun H => if decide c = true then G1 H else G2 H := t_ifT (decide_eq_true h) k
theorem t_ifDF (h : ¬ c) (k : Tr L G2) : Tr L fun H => if decide c = true then G1 H else G2 H := t_ifF (decide_eq_false h) k
theorem t_ifNT (h : ¬ c) (k : Tr L G1) : Tr L fun H => if (!decide c) = true then G1 H else G2 H := t_ifT (by rw [decide_eq_false h]; rfl) k
theorem t_ifNF (h : c) (k : Tr L G2) : Tr L fun H => if (!decide c) = true then G1 H else G2 H := t_ifF (by rw [decide_eq_true h]; rfl) k
theorem t_ifR {α : Type} [DecidableEq α] {x : α} (k : Tr L G1) : Tr L fun H => if decide (x = x) = true then G1 H else G2 H := t_ifDT rfl k
theorem t_ifNR {α : Type} [DecidableEq α] {x : α} (k : Tr L G2) : Tr L fun H => if (!decide (x = x)) = true then G1 H else G2 H := t_ifNF rfl k
end
theorem cutI_from {ns : List Int} {i : Int} (h0 : 0 ≤ i) (h1 : i ≤ ns.length) : cutI ns (some i) none = ns.drop i.toNat := by
  unfold cutI
  have e : HT.sIx ns.length 0 (some i) = i.toNat := by
    show (if i < 0 then _ else min i.toNat ns.length) = i.toNat
    rw [if_neg (by omega)]; omega
  rw [e]
  show (ns.drop i.toNat).take (ns.length - i.toNat) = ns.drop i.toNat
  exact List.take_of_length_le (by rw [List.length_drop]; omega)
theorem cutI_to {ns : List Int} {i : Int} (h0 : 0 ≤ i) (h1 : i ≤ ns.length) : cutI ns none (some i) = ns.take i.toNat := by
  unfold cutI
  have e : HT.sIx ns.length ns.length (some i) = i.toNat := by
    show (if i < 0 then _ else min i.toNat ns.length) = i.toNat
    rw [if_neg (by omega)]; omega
  rw [e]
  show ((ns.drop 0).take (i.toNat - 0)) = ns.take i.toNat
  rw [List.drop_zero, Nat.sub_zero]
/-! ### filtered comprehensions -/
/-- of the first i turns those that b keeps, told by o -/
def fl {α : Type} (b : Nat → Bool) (o : Nat → α) (i : Nat) : List α := ((List.range i).filter b).map o
theorem fl_succ {α : Type} (b : Nat → Bool) (o : Nat → α) (i : Nat) : fl b o (i + 1) = if b i = true then fl b o i ++ [o i] else fl b o i := by
  unfold fl
  rw [List.range_succ, List.filter_append, List.map_append]
  cases h : b i <;> simp [h]
theorem fl_len {α : Type} (b : Nat → Bool) (o : Nat → α) (i : Nat) : (fl b o i).length ≤ i := by
  unfold fl
  rw [List.length_map]
  exact Nat.le_trans (List.length_filter_le _ _) (by rw [List.length_range]; exact Nat.le_refl _)
section
variable {L : Lg} {σ σ0 : SS} {g : TG} {tt : TT} {te : TE} {vs : List Nat} {Q : VK} {b : Nat → Bool} {o : Nat → V} {D : Addr} {i : Nat} {M R2 : Lg}
def lcFl (L : Lg) (b : Nat → Bool) (o : Nat → V) (D : Addr) (i : Nat) : Hp → Prop := lcNx (fun _ (_ : Unit) => L) (fun i _ => fl b o i) (fun _ _ => True) D i
theorem t_lcFlA {v : V} {n : Nat} (hn : i < n) (hz : n ≤ sizeLine) (hb : b i = true) (hv : v = o i) (hp : Pick D (.lst (fl b o i)) M R2) (hM : Sub R2 L) : Tr M fun H => lcAdd D (lcFl L b o D (i + 1)) v H := by
  refine t_lcAdd () trivial hp ?_ (by rw [fl_succ, if_pos hb, hv]) hM
  have := fl_len b o i
  omega
theorem t_lcFlS (hb : b i = false) (hp : Pick D (.lst (fl b o i)) M R2) (hM : Sub R2 L) : Tr M fun H => lcFl L b o D (i + 1) H := by
  refine t_lcSkip () trivial ?_
  have e : fl b o (i + 1) = fl b o i := by rw [fl_succ, if_neg (by rw [hb]; decide)]
  show Sub M ((D, .lst (fl b o (i + 1))) :: L)
  rw [e]
  exact .take hp hM
theorem t_lcFil {J : It} {n : Nat} {val : Nat → V → Lg → Prop} {Src : Lg → Prop} (wk : Wk J n val Src) (hw : wipe σ vs = σ0) (b : Nat → Bool) (o : Nat → V) (hsrc : ∀ x, Src (x :: L))
    (hs : ∀ D i v L', i < n → val i v L' → Tr (L' ++ (D, .lst (fl b o i)) :: L) fun H => g v σ0 H fun σ2 H2 => wipe σ2 vs = σ0 ∧ tt σ2 H2 fun c H3 => if c = true then te σ2 H3 (lcAdd D (lcFl L b o D (i + 1))) else lcFl L b o D (i + 1) H3)
    (hd : ∀ D, Tr ((D, .lst (fl b o n)) :: L) fun H => Q (.ref D) H) : Tr L fun H => lcK g tt te vs σ Q J H :=
  t_lcK wk hw (fun _ (_ : Unit) => L) (fun i _ => fl b o i) (fun _ _ => True) ⟨(), trivial, rfl, .refl⟩ (fun D i y _ => hsrc _) (fun D i y v L' hi _ hv => hs D i v L' hi hv) fun D y _ => hd D
theorem fl_ints (b : Nat → Bool) (o : Nat → Int) (i : Nat) : fl b (fun k => V.int (o k)) i = (fl b o i).map V.int := by unfold fl; rw [List.map_map]; rfl
end
end Hz
namespace Hz
open PySem PySem.Spec PyProof.Rows L2 RZ
/-! ### while, the test may change the heap -/
section
variable {L : Lg} {σ : SS} {D : Ends} {tc : TT} {tb : TS}
variable {α : Type} {S : α → SS} {M : α → Lg} {I : α → Prop} {μ : α → Nat} {n : Nat}
/-- behind the test of a while -/
def whB (tb : TS) (D : Ends) (S : α → SS) (M : α → Lg) (I : α → Prop) (μ : α → Nat) (n : Nat) (σ : SS) (b : Bool) (H : Hp) : Prop :=
  if b = true then ∃ N : SS → Hp → Prop, (∀ σ' H', N σ' H' → ∃ m', m' < n ∧ ∃ y, m' = μ y ∧ I y ∧ σ' = S y ∧ Led H' (M y)) ∧ tb { D with nx := N, ct := N, bk := D.nx } σ H else D.nx σ H
theorem t_whBT (k : Tr L fun H => tb { D with nx := Wst S M I μ n, ct := Wst S M I μ n, bk := D.nx } σ H) : Tr L fun H => whB tb D S M I μ n σ true H := fun H l => by
  refine iteT ?_
  exact ⟨_, fun σ3 H3 ⟨z, iz, lt, e, lz⟩ => ⟨μ z, lt, z, rfl, iz, e, lz⟩, k H l⟩
theorem t_whBF (k : Tr L fun H => D.nx σ H) : Tr L fun H => whB tb D S M I μ n σ false H := fun H l => by
  exact iteF (k H l)
theorem t_whB {c : Prop} [Decidable c] (h1 : c → Tr L fun H => tb { D with nx := Wst S M I μ n, ct := Wst S M I μ n, bk := D.nx } σ H) (h2 : ¬ c → Tr L fun H => D.nx σ H) : Tr L fun H => whB tb D S M I μ n σ (decide c) H := by
  by_cases h : c
  · rw [decide_eq_true h]; exact t_whBT (h1 h)
  · rw [decide_eq_false h]; exact t_whBF (h2 h)
theorem t_whG (S : α → SS) (M : α → Lg) (I : α → Prop) (μ : α → Nat) (h0 : ∃ y, I y ∧ σ = S y ∧ Sub L (M y)) (hs : ∀ y, I y → Tr (M y) fun H => tc (S y) H (whB tb D S M I μ (μ y) (S y))) : Tr L fun H => tWhile tc tb D σ H := by
  intro H l
  obtain ⟨y0, i0, e0, s0⟩ := h0
  refine ⟨fun m σ' H' => ∃ y, m = μ y ∧ I y ∧ σ' = S y ∧ Led H' (M y), ⟨μ y0, y0, rfl, i0, e0, l.sub s0⟩, ?_⟩
  rintro m σ' H' ⟨y, rfl, iy, rfl, ly⟩
  exact hs y iy H' ly
end
end Hz
namespace Hz
open PySem PySem.Spec PyProof.Rows L2 RZ
/-- two ways come together: a new list of ints at p, o otherwise known -/
theorem t_joinO {L : Lg} {G : Hp → Prop} {T : Addr → Hp → Prop} (X : List Int → Addr → HO → Lg) (J : List Int → HO → Prop) (k : (∀ ds p o M, J ds o → Sub M (X ds p o) → Tr M (T p)) → Tr L G)
    (main : ∀ ds p o, J ds o → Tr (X ds p o) (T p)) : Tr L G := k fun ds p o M h s => (main ds p o h).sub s
/-- two ways come together: o otherwise known -/
theorem t_join1 {L : Lg} {G : Hp → Prop} {T : Hp → Prop} (X : HO → Lg) (J : HO → Prop) (k : (∀ o M, J o → Sub M (X o) → Tr M T) → Tr L G) (main : ∀ o, J o → Tr (X o) T) : Tr L G := k fun o M h s => (main o h).sub s
/-- two ways come together -/
theorem t_join0 {L : Lg} {G : Hp → Prop} {T : Hp → Prop} (X : Lg) (k : (∀ M, Sub M X → Tr M T) → Tr L G) (main : Tr X T) : Tr L G := k fun M s => main.sub s
/-- two ways come together: an int -/
theorem t_joinI {L : Lg} {G : Hp → Prop} {T : Int → Hp → Prop} (X : HO → Lg) (J : Int → HO → Prop) (k : (∀ i o M, J i o → Sub M (X o) → Tr M (T i)) → Tr L G) (main : ∀ i o, J i o → Tr (X o) (T i)) : Tr L G := k fun i o M h s => (main i o h).sub s
end Hz
namespace Hz
open PySem PySem.Spec PyProof.Rows L2 RZ
section
variable {L R : Lg} {σ : SS} {Q : VK} {K : PySem.W.Frag} {a : Addr} {ns : List Int} {xs : List V}
theorem t_sortI (hp : Pick a (.lst (ns.map V.int)) L R) (k : ∀ (ns' : List Int) p, ns'.Perm ns → ns'.Pairwise (· ≤ ·) → Tr ((p, .lst (ns'.map V.int)) :: L) fun H => Q (.ref p) H) : Tr L fun H => rSortedI K [.ref a] H Q :=
  fun H l => ⟨a, ns, rfl, sqL hp l, fun ns' p h1 h2 hp' => k ns' p h1 h2 _ (l.new hp')⟩
theorem first_idx {ns : List Int} {y : Int} (h : y ∈ ns) : ∃ j : Nat, ns[j]? = some y ∧ ∀ m : Nat, m < j → ns[m]? ≠ some y := by
  induction ns with
  | nil => cases h
  | cons n r ih =>
    by_cases e : n = y
    · exact ⟨0, by rw [e]; rfl, fun m hm => by omega⟩
    · obtain ⟨j, h1, h2⟩ := ih (by
        rcases List.mem_cons.mp h with h | h
        · exact absurd h.symm e
        · exact h)
      refine ⟨j + 1, by simpa using h1, fun m hm => ?_⟩
      cases m with
      | zero => simpa using e
      | succ m => simpa using h2 m (by omega)
theorem t_indexI {y : Int} (hp : Pick a (.lst (ns.map V.int)) L R) (h : y ∈ ns) (k : ∀ j : Nat, ns[j]? = some y → Tr L fun H => Q (.int (j : Nat)) H) : Tr L fun H => rIndex K (.ref a) [.int y] H Q := by
  obtain ⟨j, h1, h2⟩ := first_idx h
  refine fun H l => ⟨a, ns.map V.int, .int y, j, .int y, rfl, rfl, sqL hp l, rfl, flat_ints ns, by rw [List.getElem?_map, h1]; rfl, (show (y == y) = true from beq_self_eq_true y), fun m z' hm hz => ?_, k j h1 H l⟩
  rw [List.getElem?_map] at hz
  cases e : ns[m]? with
  | none => rw [e] at hz; cases hz
  | some w =>
    rw [e] at hz
    cases hz
    show (w == y) = false
    have := h2 m hm
    rw [e] at this
    simpa using this
theorem t_lstG {n : Nat} {gs : TGs} {Qn : SS → Hp → Prop} (hp : Pick a (.lst xs) L R) (hn : xs.length = n) (k : Tr L fun H => gs xs σ H Qn) : Tr L fun H => gLst K n gs (.ref a) σ H Qn := fun H l => ⟨a, xs, rfl, sqL hp l, hn, k H l⟩
theorem fl_none {α : Type} (o : Nat → α) (n : Nat) : fl (fun _ => false) o n = [] := by unfold fl; rw [List.filter_eq_nil_iff.mpr (fun _ _ => by decide)]; rfl
theorem fl_all {α : Type} (o : Nat → α) (n : Nat) : fl (fun _ => true) o n = (List.range n).map o := by unfold fl; rw [List.filter_eq_self.mpr (fun _ _ => rfl)]
end
end Hz
namespace Hz
open PySem PySem.Spec PyProof.Rows L2 RZ
/-- two ways come together: an int, the heap as it was -/
theorem t_joinE {L : Lg} {G : Hp → Prop} {T : Int → Hp → Prop} (X : Lg) (J : Int → Prop) (k : (∀ i M, J i → Sub M X → Tr M (T i)) → Tr L G) (main : ∀ i, J i → Tr X (T i)) : Tr L G := k fun i M h s => (main i h).sub s
theorem rg_at {a b d : Int} (h0 : 0 ≤ d) (h1 : d < b - a) : atD (rgI a b) d = a + d := by
  have := atD_nat (rgI_get (a := a) (b := b) (i := d.toNat) (by omega))
  rwa [Int.toNat_of_nonneg h0] at this
end Hz
namespace Hz
open PySem PySem.Spec PyProof.Rows L2 RZ
/-- two ways come together ahead of a loop over range(e) -/
theorem t_joinR {L : Lg} {G : Hp → Prop} {g : TG} {tb : TS} {D : Ends} {σ : SS} (X : Lg) (J : Int → Prop) (k : (∀ i M, J i → Sub M X → Tr M (forK g tb D σ (Itr 0 i.toNat))) → Tr L G) (main : ∀ i, J i → Tr X (forK g tb D σ (Itr 0 i.toNat))) : Tr L G := k fun i M h s => (main i h).sub s
end Hz

/-! Hz, part S: a list's slice is stored, with open ends. -/
namespace Hz
open PySem PySem.Spec PyProof.Rows L2 RZ PySem.W
section
variable {prog : Program} {w : World} {A : Around} {s : Shared} {E : Value → Shared → Prop}
theorem bounds_open (n : Nat) : sliceBounds none none none n = (((0 : Nat) : Int), (n : Int), 1) := by
  simp only [sliceBounds, Option.getD_none]
  rfl
theorem bounds_from {a n : Nat} (h : a ≤ n) : sliceBounds (some (a : Int)) none none n = ((a : Int), (n : Int), 1) := by
  simp only [sliceBounds, Option.getD_none]
  have h1 : ¬ ((a : Int) < 0) := by omega
  simp only [h1, if_false, show (1 : Int) > 0 by decide, if_true]
  congr 1
  omega
/-- the store at the level of values: the bounds are told -/
theorem store_slice {l b sl : Addr} {items new : Array Value} {n n2 a c : Nat} {vl vu : Value} {lo hi : Option Int} {Q : Unit → Shared → Prop}
    (e : s.heap.get? l = some { cls := .type "list", data := .seq items n }) (e2 : s.heap.get? b = some { cls := .type "list", data := .seq new n2 }) (hne : l ≠ b)
    (hs : s.heap.IsSliceOf sl vl vu .none) (pl : IsPart vl lo) (pu : IsPart vu hi) (hb : sliceBounds lo hi none items.size = ((a : Int), (c : Int), 1)) (hac : a ≤ c) (hc : c ≤ items.size)
    (hsz : items.size + new.size ≤ sizeLine) (h : Q () { s with heap := s.heap.update l (Obj.mapSeq fun xs => xs.extract 0 a ++ new ++ xs.extract c xs.size) }) :
    wpAny (model prog w) A (setItem (.ref l) (.ref sl) (.ref b)) Q E s := by
  have tl : s.heap.IsList l items := PySem.IsL.isList e
  have tb : s.heap.IsList b new := PySem.IsL.isList e2
  obtain ⟨os, o1, o2, o3⟩ := id hs
  have ts : s.TypeIs (.ref sl) "slice" := ⟨os, o1, o2⟩
  have same : Builtin.List.listSameRef (.ref l) (.ref b) = false := by
    unfold Builtin.List.listSameRef
    exact beq_eq_false_iff_ne.mpr hne
  have big : ((fun xs : Array Value => xs.extract 0 a ++ new ++ xs.extract c xs.size) items).size ≤ sizeLine + 1 := by
    simp only [Array.size_append, Array.size_extract]
    omega
  unfold setItem
  try with_reducible refine wpAny_holding ?_
  first | refine wpAny_bind (wpAny_pure ?_) | skip
  refine wpAny_bind (wpAny_sequenceKey tl.typeIs (by decide) (wpAny_bind (wpAny_callSpecial?_slot (name := Str.ofString "__setitem__") tl.typeIs slot_list_setitem
    (wpAny_call_entry slot_list_setitem tl.typeIs entry_list_setitem ?_ (args_list_setitem _ _ _)))))
  show wpAny _ _ (Builtin.List.listSubscript? (.ref sl) >>= _) _ _ s
  refine wpAny_bind ?_
  unfold Builtin.List.listSubscript?
  refine wpAny_bind (wpAny_specialOf ts slice_no_index ?_)
  simp only [Option.isNone_none, if_true]
  refine wpAny_pure ?_
  show wpAny _ _ (typeOf (.ref sl) >>= _) _ _ s
  refine wpAny_bind (wpAny_typeOf ts ?_)
  first
    | rw [if_neg (by decide)]
    | refine PySem.W.KFB.if_not (by decide) ?_
  rw [listSliceParts_eq]
  refine wpAny_bind (wpAny_bind (wpAny_field o1 o3 (x := .none) rfl (wpAny_bind (wpAny_listPart .none ?_))))
  rw [if_neg (show ¬ ((rawPart none == rawInt 0) = true) from Bool.false_ne_true)]
  refine wpAny_bind (wpAny_field o1 o3 (x := vl) rfl (wpAny_bind (wpAny_listPart pl (wpAny_bind (wpAny_field o1 o3 (x := vu) rfl (wpAny_bind (wpAny_listPart pu (wpAny_pure ?_))))))))
  first
    | simp only [same, Bool.false_eq_true, if_false]
    | refine PySem.W.KFB.if_not same ?_
    | (dsimp only
       rw [if_neg (by rw [same]; exact Bool.false_ne_true)])
  refine wpAny_bind (m := Builtin.List.listAllItems (.ref b) "must assign iterable to extended slice") ?_
  unfold Builtin.List.listAllItems
  refine wpAny_bind (wpAny_typeOf tb.typeIs ?_)
  first
    | refine PySem.W.KFB.if_so (by decide) ?_
    | rw [if_pos (by decide)]
    | simp only [beq_self_eq_true, Bool.true_or, if_true]
  unfold Builtin.List.listItems
  refine wpAny_bind (wpAny_seqItems e2 rfl (wpAny_pure ?_))
  refine wpAny_bind (wpAny_bind (wpAny_seqItems e rfl (wpAny_pure ?_)))
  refine wpAny_bind (wpAny_of_eq ((sliceIndices_raw lo hi none items.size (by simp)).trans (congrArg (pure : Int × Int × Int → Sem (Int × Int × Int)) hb)) ?_)
  show wpAny _ _ (if ((1 : Int) == 1) = true then _ else _) _ _ s
  rw [if_pos (by decide)]
  refine wpAny_bind (wpAny_rule ?_)
  first
    | simp only [notLongL hsz, Bool.false_eq_true, if_false]
    | refine PySem.W.KFB.if_not (notLongL hsz) ?_
  first | refine wpAny_bind (wpAny_pure ?_) | skip
  show wpAny _ _ (updateSeq l (fun xs => xs.extract 0 ((a : Int)).toNat ++ new ++ xs.extract (max (a : Int) (c : Int)).toNat xs.size) >>= _) _ _ s
  rw [show (max (a : Int) (c : Int)).toNat = c by omega, Int.toNat_natCast]
  refine wpAny_bind (wpAny_updateSeq (hz := Nat.le_trans (Nat.le_add_right _ _) hsz) (_hz' := big) e rfl ?_)
  refine wpAny_bind (wpAny_letGo ?_)
  first
    | exact wpAny_bind (wpAny_pure (wpAny_pure ⟨.none, rfl, wpAny_pure h⟩))
    | exact wpAny_pure ⟨.none, rfl, wpAny_pure h⟩
end
/-- xs[lo:hi] = ys : the bounds are told -/
def rSetSl (o : V) (lo hi : Option Int) (v : V) (H : Hp) (G : Hp → Prop) : Prop := ∃ l b xs ys a c, o = .ref l ∧ v = .ref b ∧ H l = some (.lst xs) ∧ H b = some (.lst ys) ∧ l ≠ b ∧
  sliceBounds lo hi none xs.length = (((a : Nat) : Int), ((c : Nat) : Int), 1) ∧ a ≤ c ∧ c ≤ xs.length ∧ xs.length + ys.length ≤ sizeLine ∧ G (upd H l (.lst (xs.take a ++ ys ++ xs.drop c)))
def gSl (to : TE) (tl th : TO) : TG := fun v σ H Q => to σ H fun o H1 => tl σ H1 fun lo H2 => th σ H2 fun hi H3 => rSetSl o lo hi v H3 fun H4 => Q σ H4
section
variable {X : Cx}
theorem pg_slice {o : Expr} {lo hi : Option Expr} {to : TE} {tl th : TO} {pos p2 : Pos} (ho : PE X o to) (hl : PO X lo tl) (hu : PO X hi th)
    (ha : ∀ v, assign (.Subscript o (.Slice lo hi none p2) pos) X.env v = (do
      let ov ← holding [v] (eval o X.env)
      let iv ← holding [v, ov] (eval (.Slice lo hi none p2) X.env)
      standAt pos
      holding [v, ov, iv] (setItem ov iv v)
      release [iv, v, ov] []) := by intro _; rfl) : PG X (.Subscript o (.Slice lo hi none p2) pos) (gSl to tl th) := by
  refine ⟨fun pins s σ H v u Q I r h => ?_⟩
  rw [ha]
  refine wpAny_bind (wpAny_holding (thn (ho.run pins s σ H _ I h) fun ov s1 ⟨x, H1, I1, r1, q1⟩ => ?_))
  refine wpAny_bind (wpAny_holding (wpAny_Slice (thn (hl.run pins s1 σ H1 _ I1 q1) fun vl s2 ⟨l, H2, I2, pl, q2⟩ => thn (hu.run pins s2 σ H2 _ I2 q2) fun vu s3 ⟨u', H3, I3, pu, q3⟩ => ?_)))
  rw [evalPart_none]
  refine wpAny_pure ?_
  have I4 : Inv X pins σ H3 { s3 with heap := s3.heap.push { cls := .type "slice", data := .fields #[vl, vu, .none] } } := I3.kept (t' := s3.toks) fun b ob q => Heap.get?_push_of_some _ q
  obtain ⟨l', b, xs, ys, a, c, rfl, rfl, hH, hB, hne, hb, hac, hc, hz, q⟩ := q3
  cases r1
  cases r
  obtain ⟨z, its, n, rv, hlen, e⟩ := I4.lstM hH
  obtain ⟨z2, its2, n2, r2, hlen2, e2⟩ := I4.lstM hB
  refine wpAny_bind (wpAny_standAt (wpAny_bind (wpAny_holding ?_)))
  have sz : its.toArray.size = xs.length := by rw [List.size_toArray]; omega
  refine store_slice (a := a) (c := c) e e2 hne (Heap.IsSliceOf.new ..) pl pu (by rw [sz]; exact hb) hac (by rw [sz]; exact hc) (by rw [sz, List.size_toArray]; omega) ?_
  refine wpAny_release ⟨σ, _, ?_, q⟩
  refine I4.lset (its' := its.take a ++ its2 ++ its.drop c) (t' := s3.toks) hH e ?_ (Vals.append (Vals.append (rv.take _) r2) (rv.drop _)) ?_
  · exact splice_eq its its2 a c
  · rw [List.length_append, List.length_append, List.length_take, List.length_drop]
    omega
end
section
variable {L R R' : Lg} {σ : SS} {l b : Addr} {ns ms : List Int} {G : Hp → Prop}
theorem t_gSl {to : TE} {tl th : TO} {v : V} {Qn : SS → Hp → Prop} (k : Tr L fun H => to σ H fun o H1 => tl σ H1 fun lo H2 => th σ H2 fun hi H3 => rSetSl o lo hi v H3 fun H4 => Qn σ H4) : Tr L fun H => gSl to tl th v σ H Qn := k
theorem ne_led {H : Hp} {L R R' : Lg} {a b : Addr} {o o' : HO} (l : Led H L) (p : Pick a o L R) (q : Pick b o' R R') : a ≠ b := by
  intro e
  subst e
  have n := (List.nodup_cons.mp (l.pick p).nd).1
  exact n (List.mem_map.mpr ⟨_, q.mem, rfl⟩)
/-- xs[:] = ys -/
theorem t_setAll (hp : Pick l (.lst (ns.map V.int)) L R) (hq : Pick b (.lst (ms.map V.int)) R R') (hz : ns.length + ms.length ≤ sizeLine) (k : Tr ((l, .lst (ms.map V.int)) :: R) G) : Tr L fun H => rSetSl (.ref l) none none (.ref b) H G := fun H h =>
  ⟨l, b, _, _, 0, ns.length, rfl, rfl, h.get hp, (h.pick hp).tail.get hq, ne_led h hp hq, by rw [List.length_map]; exact bounds_open _, Nat.zero_le _, by rw [List.length_map]; exact Nat.le_refl _, by rw [List.length_map, List.length_map]; exact hz, by
    have e : (ns.map V.int).take 0 ++ ms.map V.int ++ (ns.map V.int).drop ns.length = ms.map V.int := by
      rw [List.take_zero, List.nil_append, List.drop_of_length_le (by rw [List.length_map]; exact Nat.le_refl _), List.append_nil]
    rw [e]
    exact k _ (h.pick hp).put⟩
/-- xs[i:] = ys -/
theorem t_setFrom {i : Int} (hp : Pick l (.lst (ns.map V.int)) L R) (hq : Pick b (.lst (ms.map V.int)) R R') (h0 : 0 ≤ i) (h1 : i ≤ ns.length) (hz : ns.length + ms.length ≤ sizeLine)
    (k : Tr ((l, .lst ((ns.take i.toNat ++ ms).map V.int)) :: R) G) : Tr L fun H => rSetSl (.ref l) (some i) none (.ref b) H G := fun H h =>
  ⟨l, b, _, _, i.toNat, ns.length, rfl, rfl, h.get hp, (h.pick hp).tail.get hq, ne_led h hp hq, by
      rw [List.length_map]
      have := bounds_from (a := i.toNat) (n := ns.length) (by omega)
      rw [Int.toNat_of_nonneg h0] at this ⊢
      exact this, by omega, by rw [List.length_map]; exact Nat.le_refl _, by rw [List.length_map, List.length_map]; exact hz, by
    have e : (ns.map V.int).take i.toNat ++ ms.map V.int ++ (ns.map V.int).drop ns.length = (ns.take i.toNat ++ ms).map V.int := by
      rw [List.drop_of_length_le (by rw [List.length_map]; exact Nat.le_refl _), List.append_nil, List.map_append, List.map_take]
    rw [e]
    exact k _ (h.pick hp).put⟩
end
end Hz

/-! Hz, part G: data with empty dicts; a ledger grown by what is new. -/
namespace Hz
open PySem PySem.Spec PyProof.Rows L2 RZ
/-! ### what repr reads: a dict may be no sys.modules -/
mutual
inductive Rq (h : Heap) : Value → PyData → Prop where
  | none : Rq h .none .none
  | bool (b : Bool) : Rq h (.bool b) (.bool b)
  | int (i : Int) (t : Nat) : Rq h (.int i t) (.int i)
  | str (x : Str) (t : Nat) : Rq h (.str x t) (.str x)
  | list {a : Addr} {o : Obj} {vs : Array Value} {n : Nat} {ds : List PyData} (g : h.get? a = some o) (c : o.cls = .type "list") (e : o.data = .seq vs n) (r : RqA h vs.toList ds) : Rq h (.ref a) (.list ds)
  | tuple {a : Addr} {o : Obj} {vs : Array Value} {n : Nat} {ds : List PyData} (g : h.get? a = some o) (c : o.cls = .type "tuple") (e : o.data = .seq vs n) (r : RqA h vs.toList ds) : Rq h (.ref a) (.tuple ds)
  | dict {a : Addr} {o : Obj} {es : Array DictEntry} {n : Nat} (g : h.get? a = some o) (c : o.cls = .type "dict") (e : o.data = .dict es n) (z : es.toList = []) (q : (a == sysModules) = false) : Rq h (.ref a) (.dict [])
inductive RqA (h : Heap) : List Value → List PyData → Prop where
  | nil : RqA h [] []
  | cons {v : Value} {vs : List Value} {d : PyData} {ds : List PyData} (r : Rq h v d) (q : RqA h vs ds) : RqA h (v :: vs) (d :: ds)
end
mutual
theorem Rq.reads {h : Heap} : ∀ {v : Value} {d : PyData}, Rq h v d → ∃ as, Reads h v d as
  | _, _, .none => ⟨_, .none⟩
  | _, _, .bool b => ⟨_, .bool b⟩
  | _, _, .int i t => ⟨_, .int i t⟩
  | _, _, .str x t => ⟨_, .str x t⟩
  | _, _, .list g c e r => let ⟨_, q⟩ := RqA.reads r; ⟨_, .list g c e q⟩
  | _, _, .tuple g c e r => let ⟨_, q⟩ := RqA.reads r; ⟨_, .tuple g c e q⟩
  | _, _, .dict (es := es) g c e z q => ⟨_, .dict (kvs := []) g c e (by rw [z]; exact .nil) (by rw [z]; exact .nil)⟩
theorem RqA.reads {h : Heap} : ∀ {vs : List Value} {ds : List PyData}, RqA h vs ds → ∃ as, ReadsAll h vs ds as
  | _, _, .nil => ⟨_, .nil⟩
  | _, _, .cons r q => let ⟨_, a⟩ := Rq.reads r; let ⟨_, b⟩ := RqA.reads q; ⟨_, .cons a b⟩
end
section
variable {P : Program} {w : World} {h : Heap}
theorem RqA.go {vs : List Value} {ds : List PyData} (F : ∀ v d, (v, d) ∈ vs.zip ds → d.showable = true → d.shown.length ≤ sizeLine → ∃ bs, ReadAtMost h d.depth bs ∧ ReprK P w bs h d.depth v d.shown) :
    RqA h vs ds → PyData.showableAll ds = true → (∀ t ∈ PyData.shownAll ds, t.length ≤ sizeLine) → ∃ bs, ReadAtMost h (PyData.depthAll ds) bs ∧ ReprAllK P w bs h (PyData.depthAll ds) vs (PyData.shownAll ds) := by
  induction vs generalizing ds with
  | nil =>
    intro r _ _
    cases r
    exact ⟨[], (fun _ z => nomatch z), by simp only [PyData.shownAll]; exact .nil⟩
  | cons v vs ih =>
    intro r hs hz
    cases r with
    | cons r q =>
      rename_i d ds
      simp only [PyData.showableAll, Bool.and_eq_true] at hs
      simp only [PyData.shownAll, List.mem_cons] at hz
      obtain ⟨b1, r1, k1⟩ := F v d (by simp) hs.1 (hz _ (.inl rfl))
      obtain ⟨b2, r2, k2⟩ := ih (fun v' d' m => F v' d' (by simp [m])) q hs.2 fun t ht => hz t (.inr ht)
      refine ⟨b1 ++ b2, fun b hb => ?_, ?_⟩
      · simp only [PyData.depthAll]
        rcases List.mem_append.mp hb with m | m
        · obtain ⟨d', as', x, y⟩ := r1 b m
          exact ⟨d', as', x, Nat.le_trans y (Nat.le_max_left _ _)⟩
        · obtain ⟨d', as', x, y⟩ := r2 b m
          exact ⟨d', as', x, Nat.le_trans y (Nat.le_max_right _ _)⟩
      · simp only [PyData.depthAll, PyData.shownAll]
        exact .cons ((k1.more fun b m => List.mem_append_left _ m).level_le (Nat.le_max_left _ _)) (k2.more_le (fun b m => List.mem_append_right _ m) (Nat.le_max_right _ _))
theorem rqa_at {vs : List Value} {ds : List PyData} {v : Value} {d : PyData} (r : RqA h vs ds) (m : (v, d) ∈ vs.zip ds) : Rq h v d := by
  induction vs generalizing ds with
  | nil => cases r; simp at m
  | cons x vs ih =>
    cases r with
    | cons r q =>
      simp only [List.zip_cons_cons, List.mem_cons, Prod.mk.injEq] at m
      rcases m with ⟨rfl, rfl⟩ | m
      · exact r
      · exact ih q m
theorem rqa_sz {vs : List Value} {ds : List PyData} {v : Value} {d : PyData} (m : (v, d) ∈ vs.zip ds) : sizeOf d < sizeOf ds := List.sizeOf_lt_of_mem (List.of_mem_zip m).2
theorem Rq.reprN : ∀ (N : Nat) {v : Value} {d : PyData}, sizeOf d ≤ N → Rq h v d → d.showable = true → d.shown.length ≤ sizeLine → ∃ bs, ReadAtMost h d.depth bs ∧ ReprK P w bs h d.depth v d.shown := by
  intro N
  induction N with
  | zero =>
    intro v d hN
    exfalso
    cases d <;> simp at hN <;> omega
  | succ N ihN =>
  intro v d hN r hs hz
  have r0 := r
  cases r with
  | none => exact ⟨[], (fun _ z => nomatch z), by simp only [PyData.shown]; exact .of_is ReprIs.none _ _ _⟩
  | bool b => exact ⟨[], (fun _ z => nomatch z), by simp only [PyData.shown]; exact .of_is (ReprIs.bool b) _ _ _⟩
  | int i t => exact ⟨[], (fun _ z => nomatch z), by simp only [PyData.shown]; exact .of_is (ReprIs.int t (by simpa [PyData.showable] using hs)) _ _ _⟩
  | str x t => exact ⟨[], (fun _ z => nomatch z), by simp only [PyData.shown]; exact .of_is (ReprIs.str x t (by simpa only [PyData.shown] using hz)) _ _ _⟩
  | list g c e r =>
    rename_i a o vs n ds
    obtain ⟨as, rr⟩ := r0.reads
    simp only [PyData.showable] at hs
    have hz2 : (listText (PyData.shownAll ds)).length ≤ sizeLine := by simpa only [PyData.shown] using hz
    obtain ⟨bs, hb, hk⟩ := RqA.go (P := P) (w := w) (fun v d m h1 h2 => ihN (by have := rqa_sz m; simp at hN; omega) (rqa_at r m) h1 h2) r hs fun t ht => Nat.le_trans (listText_mem_le ht) hz2
    have hna : a ∉ bs := not_mem_of_deeper rr (by simp only [PyData.depth]; omega) hb
    refine ⟨a :: bs, ReadAtMost.cons rr (by simp only [PyData.depth]; omega) hb, ?_⟩
    simp only [PyData.depth, PyData.shown]
    obtain ⟨l⟩ := vs
    cases l with
    | nil =>
      cases r
      simp only [PyData.shownAll, listText_nil]
      exact ReprK.listEmpty g c e
    | cons x l => exact ReprK.list g c e hna (by simpa using hk.length_eq) fun i y z => hk.item i y (by simpa using z)
  | tuple g c e r =>
    rename_i a o vs n ds
    obtain ⟨as, rr⟩ := r0.reads
    simp only [PyData.showable] at hs
    have hz2 : (tupleText (PyData.shownAll ds)).length ≤ sizeLine := by simpa only [PyData.shown] using hz
    obtain ⟨bs, hb, hk⟩ := RqA.go (P := P) (w := w) (fun v d m h1 h2 => ihN (by have := rqa_sz m; simp at hN; omega) (rqa_at r m) h1 h2) r hs fun t ht => Nat.le_trans (tupleText_mem_le ht) hz2
    have hna : a ∉ bs := not_mem_of_deeper rr (by simp only [PyData.depth]; omega) hb
    refine ⟨a :: bs, ReadAtMost.cons rr (by simp only [PyData.depth]; omega) hb, ?_⟩
    simp only [PyData.depth, PyData.shown]
    exact ReprK.tuple g c e hna hk
  | dict g c e z q =>
    rename_i a o es n
    obtain ⟨as, rr⟩ := r0.reads
    refine ⟨[a], ReadAtMost.cons rr (Nat.zero_le _) (bs := []) (n := 0) (fun _ z => nomatch z), ?_⟩
    simp only [PyData.depth, PyData.depthKv, PyData.shown, PyData.shownKv]
    exact ReprK.dict g c e q (by simp) (by rw [z]; exact .nil)
theorem Rq.repr {v : Value} {d : PyData} (r : Rq h v d) (hs : d.showable = true) (hz : d.shown.length ≤ sizeLine) : ∃ bs, ReadAtMost h d.depth bs ∧ ReprK P w bs h d.depth v d.shown := Rq.reprN _ (Nat.le_refl _) r hs hz
theorem Rq.shows {a : Addr} {d : PyData} (r : Rq h (.ref a) d) (hs : d.showable = true) (hz : d.shown.length ≤ sizeLine) : ∃ T idr, ShowsBy P w h a d T idr := by
  have r0 := r
  cases r with
  | list g c e r =>
    rename_i o vs n ds
    obtain ⟨as, rr⟩ := r0.reads
    simp only [PyData.showable] at hs
    have hz2 : (listText (PyData.shownAll ds)).length ≤ sizeLine := by simpa only [PyData.shown] using hz
    obtain ⟨bs, hb, hk⟩ := RqA.go (P := P) (w := w) (fun v d m h1 h2 => Rq.repr (rqa_at r m) h1 h2) r hs fun t ht => Nat.le_trans (listText_mem_le ht) hz2
    have hna : a ∉ bs := not_mem_of_deeper rr (by simp only [PyData.depth]; omega) hb
    refine ⟨"list", "list.__repr__", F.slot_list_repr.toG, F.slot_list_str, F.slot_list_format, fun s hk0 => ⟨o, hk0 _ _ g, c⟩, fun A E s Q hg hu hk0 hQ => ?_⟩
    simp only [PyData.depth] at hu
    simp only [PyData.shown] at hQ
    obtain ⟨l⟩ := vs
    cases l with
    | nil =>
      cases r
      simp only [PyData.shownAll, listText_nil] at hQ
      exact call_list_repr_empty ⟨o, hk0 _ _ g, c⟩ (hk0 _ _ g) e (hQ s.heap _ _ fun _ _ z => z)
    | cons x l => exact call_list_reprK g c e hna (by simpa using hk.length_eq) (fun i y z => hk.item i y (by simpa using z)) hg (fun b _ => Clear.nil b) hu hk0 hQ hz2
  | tuple g c e r =>
    rename_i o vs n ds
    obtain ⟨as, rr⟩ := r0.reads
    simp only [PyData.showable] at hs
    have hz2 : (tupleText (PyData.shownAll ds)).length ≤ sizeLine := by simpa only [PyData.shown] using hz
    obtain ⟨bs, hb, hk⟩ := RqA.go (P := P) (w := w) (fun v d m h1 h2 => Rq.repr (rqa_at r m) h1 h2) r hs fun t ht => Nat.le_trans (tupleText_mem_le ht) hz2
    have hna : a ∉ bs := not_mem_of_deeper rr (by simp only [PyData.depth]; omega) hb
    refine ⟨"tuple", "tuple.__repr__", F.slot_tuple_repr, F.slot_tuple_str, F.slot_tuple_format, fun s hk0 => ⟨o, hk0 _ _ g, c⟩, fun A E s Q hg hu hk0 hQ => ?_⟩
    simp only [PyData.depth] at hu
    simp only [PyData.shown] at hQ
    exact call_tuple_reprK g c e hna hk hg (fun b _ => Clear.nil b) hu hk0 hQ hz2
  | dict g c e z q =>
    rename_i o es n
    refine ⟨"dict", "dict.__repr__", F.slot_dict_repr, F.slot_dict_str, F.slot_dict_format, fun s hk0 => ⟨o, hk0 _ _ g, c⟩, fun A E s Q hg hu hk0 hQ => ?_⟩
    simp only [PyData.depth, PyData.depthKv] at hu
    simp only [PyData.shown, PyData.shownKv] at hQ hz
    exact call_dict_reprK (as := []) g c e q (by simp) (ps := []) (by rw [z]; exact .nil) hg (fun b _ => Clear.nil b) hu hk0 hQ hz
end
/-! ### data by the ledger, empty dicts among them -/
mutual
inductive Dv (L : Lg) : V → PyData → Prop where
  | non : Dv L .non .none
  | bl (b : Bool) : Dv L (.bl b) (.bool b)
  | int (i : Int) : Dv L (.int i) (.int i)
  | str (z : Str) : Dv L (.str z) (.str z)
  | lst {a : Addr} {xs : List V} {ds : List PyData} (m : (a, .lst xs) ∈ L) (r : DvAll L xs ds) : Dv L (.ref a) (.list ds)
  | tup {a : Addr} {xs : List V} {ds : List PyData} (m : (a, .tup xs) ∈ L) (r : DvAll L xs ds) : Dv L (.ref a) (.tuple ds)
  | dct {a : Addr} (m : (a, .dK []) ∈ L) : Dv L (.ref a) (.dict [])
inductive DvAll (L : Lg) : List V → List PyData → Prop where
  | nil : DvAll L [] []
  | cons {x : V} {xs : List V} {d : PyData} {ds : List PyData} (h : Dv L x d) (r : DvAll L xs ds) : DvAll L (x :: xs) (d :: ds)
end
mutual
theorem Dv.mono {L M : Lg} (s : ∀ p ∈ L, p ∈ M) : ∀ {x : V} {d : PyData}, Dv L x d → Dv M x d
  | _, _, .non => .non
  | _, _, .bl b => .bl b
  | _, _, .int i => .int i
  | _, _, .str z => .str z
  | _, _, .lst m h => .lst (s _ m) (DvAll.mono s h)
  | _, _, .tup m h => .tup (s _ m) (DvAll.mono s h)
  | _, _, .dct m => .dct (s _ m)
theorem DvAll.mono {L M : Lg} (s : ∀ p ∈ L, p ∈ M) : ∀ {xs : List V} {ds : List PyData}, DvAll L xs ds → DvAll M xs ds
  | _, _, .nil => .nil
  | _, _, .cons h r => .cons (Dv.mono s h) (DvAll.mono s r)
end
mutual
theorem Dt.dv {L : Lg} : ∀ {x : V} {d : PyData}, Dt L x d → Dv L x d
  | _, _, .non => .non
  | _, _, .bl b => .bl b
  | _, _, .int i => .int i
  | _, _, .str z => .str z
  | _, _, .lst m h => .lst m (DtAll.dv h)
  | _, _, .tup m h => .tup m (DtAll.dv h)
theorem DtAll.dv {L : Lg} : ∀ {xs : List V} {ds : List PyData}, DtAll L xs ds → DvAll L xs ds
  | _, _, .nil => .nil
  | _, _, .cons h r => .cons (Dt.dv h) (DtAll.dv r)
end
theorem DvAll.len {L : Lg} : ∀ {xs : List V} {ds : List PyData}, DvAll L xs ds → xs.length = ds.length
  | _, _, .nil => rfl
  | _, _, .cons _ r => by rw [List.length_cons, List.length_cons, r.len]
theorem DvAll.get {L : Lg} : ∀ {xs : List V} {ds : List PyData} {i : Nat} {x : V}, DvAll L xs ds → xs[i]? = some x → ∃ d, ds[i]? = some d ∧ Dv L x d
  | _, _, 0, _, .cons h _, e => by cases e; exact ⟨_, rfl, h⟩
  | _, _, i + 1, _, .cons _ r, e => r.get (i := i) (by simpa using e)
theorem DvAll.ints {L : Lg} (ns : List Int) : DvAll L (ns.map V.int) (ns.map PyData.int) := (DtAll.ints ns).dv
theorem DvAll.app {L : Lg} : ∀ {xs ys : List V} {ds es : List PyData}, DvAll L xs ds → DvAll L ys es → DvAll L (xs ++ ys) (ds ++ es)
  | _, _, _, _, .nil, h => h
  | _, _, _, _, .cons h r, h2 => .cons h (r.app h2)
theorem Dv.ints {L : Lg} {a : Addr} {ns : List Int} (h : (a, .lst (ns.map V.int)) ∈ L) : Dv L (.ref a) (.list (ns.map PyData.int)) := .lst h (.ints ns)
theorem Dv.intsT {L : Lg} {a : Addr} {ns : List Int} (h : (a, .tup (ns.map V.int)) ∈ L) : Dv L (.ref a) (.tuple (ns.map PyData.int)) := .tup h (.ints ns)
theorem Dv.ty {L : Lg} {x : V} {d : PyData} (h : Dv L x d) : HasTy L x (dtName d) := by
  cases h with
  | non => exact .non
  | bl b => exact .bl b
  | int i => exact .int i
  | str z => exact .str z
  | lst m _ => exact .lst m
  | tup m _ => exact .tup m
  | dct m => exact .dct m
section
variable {X : Cx} {pins : List (Addr × Obj)} {σ : L2.St} {H : Hp} {s : Shared} {L : Lg}
mutual
theorem Dv.rq (I : Inv X pins σ H s) (l : Led H L) : ∀ {x : V} {d : PyData} {u : Value}, Dv L x d → RelV x u → Rq s.heap u d
  | _, _, _, .non, r => by cases r; exact .none
  | _, _, _, .bl b, r => by cases r; exact .bool b
  | _, _, _, .int i, r => by obtain ⟨t, rfl⟩ := r; exact .int i t
  | _, _, _, .str z, r => by obtain ⟨t, rfl⟩ := r; exact .str z t
  | _, _, _, .lst m h, r => by
    cases r
    obtain ⟨its, rv, ⟨o, n, ho, hc, _, hd⟩, _⟩ := I.list (.inl (.inl (l.has _ m)))
    exact .list ho hc hd (by rw [List.toList_toArray]; exact DvAll.rq I l h rv)
  | _, _, _, .tup m h, r => by
    cases r
    obtain ⟨its, rv, ⟨o, ho, hc, n, hd⟩, _⟩ := I.tuple (.inl (.inl (l.has _ m)))
    exact .tuple ho hc hd (by rw [List.toList_toArray]; exact DvAll.rq I l h rv)
  | _, _, _, .dct m, r => by
    cases r
    obtain ⟨_, hq, vs, rel, o, es, ep, e, x, hd, _, pr, _⟩ := I.hok _ _ (l.has _ m)
    cases rel
    refine .dict e x.1 hd ?_ hq
    revert pr
    generalize es.toList = l
    intro pr
    cases pr; rfl
theorem DvAll.rq (I : Inv X pins σ H s) (l : Led H L) : ∀ {xs : List V} {ds : List PyData} {us : List Value}, DvAll L xs ds → Vals xs us → RqA s.heap us ds
  | _, _, _, .nil, r => by cases r; exact .nil
  | _, _, _, .cons h q, r => by
    cases r with
    | cons r1 r2 => exact .cons (Dv.rq I l h r1) (DvAll.rq I l q r2)
end
end
end Hz
namespace Hz
open PySem PySem.Spec PyProof.Rows L2 RZ
/-! ### what can be shown -/
/-- d's text has at most n signs, it is nested at most k deep -/
def Sz (n k : Nat) (d : PyData) : Prop := d.showable = true ∧ d.depth ≤ k ∧ d.shown.length ≤ n
theorem Sz.le {n k m j : Nat} {d : PyData} (h : Sz n k d) (e1 : n ≤ m) (e2 : k ≤ j) : Sz m j d := ⟨h.1, Nat.le_trans h.2.1 e2, Nat.le_trans h.2.2 e1⟩
theorem Sz.none : Sz 4 0 .none := ⟨by simp only [PyData.showable], by simp only [PyData.depth]; omega, by simp only [PyData.shown]; decide⟩
theorem Sz.bool (b : Bool) : Sz 5 0 (.bool b) := ⟨by simp only [PyData.showable], by simp only [PyData.depth]; omega, by cases b <;> simp only [PyData.shown] <;> decide⟩
theorem Sz.int {i : Int} (N : Nat) (h0 : 0 < N) (h1 : N ≤ 1000) (h : i.natAbs < 2 ^ N) : Sz (N + 1) 0 (.int i) := by
  have z := PySem.Flt.log2_lt_of h0 h
  refine ⟨by simp only [PyData.showable, decide_eq_true_eq]; omega, by simp only [PyData.depth]; omega, ?_⟩
  simp only [PyData.shown]
  rw [PySem.ofString_length]
  exact int_text_length_le h0 z
theorem Sz.str {z : Str} (h : ∀ c ∈ z.cps.toList, c < 16 ^ 8) : Sz (10 * z.cps.size + 8) 0 (.str z) := by
  refine ⟨by simp only [PyData.showable], by simp only [PyData.depth]; omega, ?_⟩
  have := PyData.shown_le 8 (by decide) (.str z) (by simp only [PyData.leavesShort, List.all_eq_true, decide_eq_true_eq]; exact h)
  simpa only [PyData.weight] using this
theorem Sz.dct : Sz 2 1 (.dict []) := ⟨by simp only [PyData.showable, PyData.showableKv], by simp only [PyData.depth, PyData.depthKv]; omega, by simp only [PyData.shown, PyData.shownKv]; decide⟩
theorem sz_show {n k : Nat} : ∀ {ds : List PyData}, (∀ d ∈ ds, Sz n k d) → PyData.showableAll ds = true
  | [], _ => by simp only [PyData.showableAll]
  | d :: r, h => by simp only [PyData.showableAll, (h d (.head _)).1, sz_show fun e m => h e (.tail _ m), Bool.and_self]
theorem sz_deep {n k : Nat} : ∀ {ds : List PyData}, (∀ d ∈ ds, Sz n k d) → PyData.depthAll ds ≤ k
  | [], _ => by simp only [PyData.depthAll]; omega
  | d :: r, h => by
    have h1 := (h d (.head _)).2.1
    have h2 := sz_deep (ds := r) fun e m => h e (.tail _ m)
    simp only [PyData.depthAll]; omega
theorem sz_sum {n k : Nat} : ∀ {ds : List PyData}, (∀ d ∈ ds, Sz n k d) → ((PyData.shownAll ds).map (·.length)).sum ≤ ds.length * n ∧ (PyData.shownAll ds).length = ds.length
  | [], _ => by simp [PyData.shownAll]
  | d :: r, h => by
    have h1 := (h d (.head _)).2.2
    obtain ⟨h2, h3⟩ := sz_sum (ds := r) fun e m => h e (.tail _ m)
    simp only [PyData.shownAll, List.map_cons, List.sum_cons, List.length_cons, h3, Nat.add_mul, Nat.one_mul]
    exact ⟨by omega, trivial⟩
theorem Sz.list {n k : Nat} {ds : List PyData} (m : Nat) (h : ∀ d ∈ ds, Sz n k d) (hl : ds.length ≤ m) : Sz (m * n + 2 * m + 3) (k + 1) (.list ds) := by
  obtain ⟨h1, h2⟩ := sz_sum h
  refine ⟨by simp only [PyData.showable]; exact sz_show h, by have := sz_deep h; simp only [PyData.depth]; omega, ?_⟩
  have h3 := listText_len_le (PyData.shownAll ds)
  have h4 : ds.length * n ≤ m * n := Nat.mul_le_mul_right _ hl
  simp only [PyData.shown]
  omega
theorem Sz.tuple {n k : Nat} {ds : List PyData} (m : Nat) (h : ∀ d ∈ ds, Sz n k d) (hl : ds.length ≤ m) : Sz (m * n + 2 * m + 3) (k + 1) (.tuple ds) := by
  obtain ⟨h1, h2⟩ := sz_sum h
  refine ⟨by simp only [PyData.showable]; exact sz_show h, by have := sz_deep h; simp only [PyData.depth]; omega, ?_⟩
  have h3 := tupleText_len_le (PyData.shownAll ds)
  have h4 : ds.length * n ≤ m * n := Nat.mul_le_mul_right _ hl
  simp only [PyData.shown]
  omega
theorem Sz.ints {ns : List Int} (N m : Nat) (h0 : 0 < N) (h1 : N ≤ 1000) (h : ∀ n ∈ ns, n.natAbs < 2 ^ N) (hl : ns.length ≤ m) : Sz (m * (N + 1) + 2 * m + 3) 1 (.list (ns.map PyData.int)) :=
  Sz.list m (fun d hd => by obtain ⟨n, hn, rfl⟩ := List.mem_map.mp hd; exact Sz.int N h0 h1 (h n hn)) (by rw [List.length_map]; exact hl)
theorem Sz.intsT {ns : List Int} (N m : Nat) (h0 : 0 < N) (h1 : N ≤ 1000) (h : ∀ n ∈ ns, n.natAbs < 2 ^ N) (hl : ns.length ≤ m) : Sz (m * (N + 1) + 2 * m + 3) 1 (.tuple (ns.map PyData.int)) :=
  Sz.tuple m (fun d hd => by obtain ⟨n, hn, rfl⟩ := List.mem_map.mp hd; exact Sz.int N h0 h1 (h n hn)) (by rw [List.length_map]; exact hl)
/-! ### repr of data -/
section
variable {X : Cx}
/-- repr(x), x data by any ledger that the heap holds -/
def rReprV : List V → Hp → VK → Prop := fun xs H Q => ∃ x d L, xs = [x] ∧ Led H L ∧ Dv L x d ∧ d.showable = true ∧ d.depth < 60 ∧ d.shown.length ≤ sizeLine ∧ Q (.str d.shown) H
theorem call_reprV (gd : X.A.guards = some []) (hu : X.A.units + 64 < cLine) : CallR X (.builtin "repr") rReprV := by
  intro pins s σ H xs us Q I r h
  obtain ⟨x, d, L, rfl, l, hd, hs, hk, hz, q⟩ := h
  obtain ⟨u, rfl, ru⟩ := vals1 r
  have rq := hd.rq I l ru
  have deep : ∀ {a : Addr}, Rq s.heap (.ref a) d → wpAny (model X.prog X.w) X.A (call (.builtin "repr") [.ref a]) (EP X pins σ Q) X.xe s := fun {a} rq => by
    obtain ⟨T, idr, S⟩ := rq.shows (P := X.prog) (w := X.w) hs hz
    exact call_repr_slot (by omega) (S.typeIs s fun _ _ z => z) S.slotRepr (S.call X.A.in1 X.xe s _ gd (by show X.A.units + 1 + d.depth < cLine; omega) (fun _ _ z => z) fun h' u tk hk => ⟨_, _, rfl, ⟨.str _, H, I.kept hk, ⟨_, rfl⟩, q⟩⟩)
  cases hd with
  | non =>
    cases (show u = Value.none from ru)
    exact PySem.P.repr_of_none ⟨.str _, H, I.tok _, ⟨_, rfl⟩, by simpa only [PyData.shown] using q⟩
  | bl b =>
    cases (show u = Value.bool b from ru)
    exact PySem.P.repr_of_bool ⟨.str _, H, I.tok _, ⟨_, rfl⟩, by simpa only [PyData.shown] using q⟩
  | int i =>
    obtain ⟨t, rfl⟩ := ru
    exact PySem.P.repr_of_int (by simpa [PyData.showable] using hs) ⟨.str _, H, I.tok _, ⟨_, rfl⟩, by simpa only [PyData.shown] using q⟩
  | str y =>
    obtain ⟨t, rfl⟩ := ru
    exact PySem.P.repr_of_str ⟨.str _, H, I.tok _, ⟨_, rfl⟩, by simpa only [PyData.shown] using q⟩ (by simpa only [PyData.shown] using hz)
  | lst _ _ =>
    cases (show u = Value.ref _ from ru)
    exact deep rq
  | tup _ _ =>
    cases (show u = Value.ref _ from ru)
    exact deep rq
  | dct _ =>
    cases (show u = Value.ref _ from ru)
    exact deep rq
end
section
variable {L M R : Lg} {Q : VK} {x : V} {d : PyData} {a : Addr}
theorem t_reprV (hd : Dv L x d) (n k : Nat) (hs : Sz n k d) (hn : n ≤ 16777216) (hk : k < 60) (q : Tr L fun H => Q (.str d.shown) H) : Tr L fun H => rReprV [x] H Q :=
  fun H l => ⟨x, d, L, rfl, l, hd, hs.1, Nat.lt_of_le_of_lt hs.2.1 hk, by rw [sizeLine_eq]; exact Nat.le_trans hs.2.2 hn, q H l⟩
theorem t_reprVI {ns : List Int} (hm : (a, .lst (ns.map V.int)) ∈ L) (h : ∀ n ∈ ns, n.natAbs < 2 ^ 1000) (hl : ns.length ≤ 16000) (q : Tr L fun H => Q (.str (reprI ns)) H) : Tr L fun H => rReprV [.ref a] H Q :=
  t_reprV (Dv.ints hm) _ _ (Sz.ints 1000 16000 (by decide) (by decide) h hl) (by decide) (by decide) q
/-! ### what is new stands ahead of what was -/
theorem Pick.app {o : HO} : ∀ (N : Lg) {L R : Lg}, Pick a o L R → Pick a o (N ++ L) (N ++ R)
  | [], _, _, h => h
  | _ :: N, _, _, h => .tail (Pick.app N h)
theorem Sub.app : ∀ (N : Lg) {L M : Lg}, Sub L M → Sub (N ++ L) M
  | [], _, _, h => h
  | _ :: N, _, _, h => .drop (Sub.app N h)
/-- M is N ahead of L -/
inductive Pre : Lg → Lg → Lg → Prop where
  | nil {L : Lg} : Pre L L []
  | cons {x : Addr × HO} {M L N : Lg} : Pre M L N → Pre (x :: M) L (x :: N)
  | app (K : Lg) {M L N : Lg} : Pre M L N → Pre (K ++ M) L (K ++ N)
theorem Pre.eq {M L N : Lg} (h : Pre M L N) : M = N ++ L := by
  induction h with
  | nil => rfl
  | cons _ ih => rw [ih]; rfl
  | app K _ ih => rw [ih, List.append_assoc]
theorem t_pre {o : HO} {N : Lg} {G : Hp → Prop} (hp : Pick a o M R) (h : Pre R L N) (k : Tr ((a, o) :: (N ++ L)) G) : Tr M G := by
  rw [← h.eq] at k
  exact Tr.pick hp k
theorem t_preV {o : HO} {N : Lg} {G : Hp → Prop} (S : PyData → Prop) (k : ∀ d, Dv (N ++ L) x d → S d → Tr ((a, o) :: (N ++ L)) G) (hp : Pick a o M R) (h : Pre R L N) (key : ∃ d, Dv R x d ∧ S d) : Tr M G := by
  obtain ⟨d, h1, h2⟩ := key
  rw [h.eq] at h1
  exact t_pre hp h (k d h1 h2)
theorem t_pre0 {N : Lg} {G : Hp → Prop} (h : Pre M L N) (k : Tr (N ++ L) G) : Tr M G := by
  rw [h.eq]; exact k
end
end Hz
namespace Hz
open PySem PySem.Spec PyProof.Rows L2 RZ
section
variable {L : Lg} {σ : SS} {Q : VK}
/-- {} -/
theorem t_dnewK (k : ∀ p, Tr ((p, .dK []) :: L) fun H => Q (.ref p) H) : Tr L fun H => tDNewK σ H Q := fun H l p hp => k p _ (l.new hp)
end
end Hz
namespace Hz
open PySem PySem.Spec PyProof.Rows L2 RZ
/-- ways come together: what is known then bears a name -/
theorem t_join {α : Type} {L : Lg} {G : Hp → Prop} {T : Hp → Prop} (X : α → Lg) (J : α → Prop) (k : (∀ y M, J y → Sub M (X y) → Tr M T) → Tr L G) (main : ∀ y, J y → Tr (X y) T) : Tr L G := k fun y M h s => (main y h).sub s
end Hz
namespace Hz
open PySem PySem.Spec PyProof.Rows L2 RZ
section
variable {L R R' : Lg} {Q : VK} {K : PySem.W.Frag} {a b p : Addr} {xs ys : List V}
theorem t_extend (hp : Pick a (.lst xs) L R) (hq : Pick b (.lst ys) L R') (hz : xs.length + ys.length ≤ sizeLine) (k : Tr ((a, .lst (xs ++ ys)) :: R) fun H => Q .non H) : Tr L fun H => rExtend (.ref a) [.ref b] H Q :=
  fun H l => ⟨a, b, xs, ys, rfl, rfl, l.get hp, l.get hq, hz, k _ (l.pick hp).put⟩
/-- xs[i] = v -/
theorem t_setV {i : Int} {v : V} {G : Hp → Prop} (hp : Pick p (.lst xs) L R) (h0 : 0 ≤ i) (h1 : i < xs.length) (k : Tr ((p, .lst (xs.set i.toNat v)) :: R) G) : Tr L fun H => rSetL (.ref p) (.int i) v H G :=
  t_setL (j := i.toNat) hp (by unfold ixN; first | rfl | (split <;> simp_all <;> omega)) k
/-! ### lists of tuples of two ints -/
def prD (p : Int × Int) : PyData := .tuple [.int p.1, .int p.2]
def prsD (ps : List (Int × Int)) : PyData := .list (ps.map prD)
/-- xs are tuples of two ints -/
def Prs (L : Lg) (xs : List V) (ps : List (Int × Int)) : Prop := DtAll L xs (ps.map prD)
theorem Dt.inv {L : Lg} {x : V} {p : Int × Int} (h : Dt L x (prD p)) : ∃ T, x = .ref T ∧ (T, .tup [.int p.1, .int p.2]) ∈ L := by
  unfold prD at h
  cases h with
  | tup m r =>
    cases r with
    | cons h1 r =>
      cases h1
      cases r with
      | cons h2 r =>
        cases h2
        cases r
        exact ⟨_, rfl, m⟩
theorem Dt.pr {L : Lg} {T : Addr} {s l : Int} (m : (T, .tup [.int s, .int l]) ∈ L) : Dt L (.ref T) (prD (s, l)) := .tup m (.cons (.int _) (.cons (.int _) .nil))
theorem Prs.len {L : Lg} {xs : List V} {ps : List (Int × Int)} (h : Prs L xs ps) : xs.length = ps.length := by
  have := DtAll.len h
  rwa [List.length_map] at this
theorem Prs.at {L : Lg} {xs : List V} {ps : List (Int × Int)} (h : Prs L xs ps) {i : Nat} {v : V} (e : xs[i]? = some v) : ∃ T p, v = .ref T ∧ ps[i]? = some p ∧ (T, .tup [.int p.1, .int p.2]) ∈ L := by
  obtain ⟨d, e1, hd⟩ := DtAll.get h e
  rw [List.getElem?_map] at e1
  cases e2 : ps[i]? with
  | none => rw [e2] at e1; cases e1
  | some p =>
    rw [e2] at e1
    cases e1
    obtain ⟨T, rfl, m⟩ := hd.inv
    exact ⟨T, p, rfl, rfl, m⟩
theorem Prs.mono {L M : Lg} (s : ∀ p ∈ L, p ∈ M) {xs : List V} {ps : List (Int × Int)} (h : Prs L xs ps) : Prs M xs ps := DtAll.mono s h
theorem DtAll.app {L : Lg} : ∀ {xs ys : List V} {ds es : List PyData}, DtAll L xs ds → DtAll L ys es → DtAll L (xs ++ ys) (ds ++ es)
  | _, _, _, _, .nil, h => h
  | _, _, _, _, .cons h r, h2 => .cons h (r.app h2)
theorem DtAll.set {L : Lg} : ∀ {xs : List V} {ds : List PyData} {x : V} {d : PyData} (i : Nat), DtAll L xs ds → Dt L x d → DtAll L (xs.set i x) (ds.set i d)
  | _, _, _, _, _, .nil, _ => .nil
  | _, _, _, _, 0, .cons _ r, h => .cons h r
  | _, _, _, _, i + 1, .cons h0 r, h => .cons h0 (r.set i h)
theorem Prs.app {L : Lg} {xs ys : List V} {ps qs : List (Int × Int)} (h : Prs L xs ps) (h2 : Prs L ys qs) : Prs L (xs ++ ys) (ps ++ qs) := by
  unfold Prs
  rw [List.map_append]
  exact DtAll.app h h2
theorem Prs.set {L : Lg} {xs : List V} {ps : List (Int × Int)} {x : V} {p : Int × Int} (i : Nat) (h : Prs L xs ps) (h2 : Dt L x (prD p)) : Prs L (xs.set i x) (ps.set i p) := by
  unfold Prs
  rw [List.map_set]
  exact DtAll.set i h h2
theorem Prs.one {L : Lg} {T : Addr} {s l : Int} (m : (T, .tup [.int s, .int l]) ∈ L) : Prs L [.ref T] [(s, l)] := .cons (.pr m) .nil
theorem Prs.snoc {L : Lg} {xs : List V} {ps : List (Int × Int)} {T : Addr} {s l : Int} (h : Prs L xs ps) (m : (T, .tup [.int s, .int l]) ∈ L) : Prs L (xs ++ [.ref T]) (ps ++ [(s, l)]) := h.app (.one m)
theorem Prs.dt {L : Lg} {xs : List V} {ps : List (Int × Int)} (h : Prs L xs ps) (m : (a, .lst xs) ∈ L) : Dt L (.ref a) (prsD ps) := .lst m h
/-- numbers of at most 110 bits -/
def Sm (ps : List (Int × Int)) : Prop := ∀ p ∈ ps, 0 ≤ p.1 ∧ p.1 < 2 ^ 110 ∧ 0 ≤ p.2 ∧ p.2 < 2 ^ 110
theorem Sz.pr {p : Int × Int} (h : 0 ≤ p.1 ∧ p.1 < 2 ^ 110 ∧ 0 ≤ p.2 ∧ p.2 < 2 ^ 110) : Sz 300 1 (prD p) :=
  (Sz.tuple (n := 111) (k := 0) 2 (fun d hd => by
    simp only [List.mem_cons, List.not_mem_nil, or_false] at hd
    rcases hd with rfl | rfl
    · exact Sz.int 110 (by decide) (by decide) (by omega)
    · exact Sz.int 110 (by decide) (by decide) (by omega)) (by simp)).le (by decide) (by decide)
theorem Sz.prs {ps : List (Int × Int)} (m : Nat) (h : Sm ps) (hl : ps.length ≤ m) : Sz (m * 300 + 2 * m + 3) 2 (prsD ps) :=
  Sz.list m (fun d hd => by obtain ⟨p, hp, rfl⟩ := List.mem_map.mp hd; exact Sz.pr (h p hp)) (by rw [List.length_map]; exact hl)
theorem eqvAll_prs : ∀ ps qs : List (Int × Int), PyData.eqvAll (ps.map prD) (qs.map prD) = decide (ps = qs)
  | [], [] => by simp [PyData.eqvAll]
  | [], _ :: _ => by simp [PyData.eqvAll]
  | _ :: _, [] => by simp [PyData.eqvAll]
  | (s, l) :: r, (s', l') :: r' => by
    simp only [List.map_cons, PyData.eqvAll, prD, PyData.eqv, eqvAll_prs r r', List.cons.injEq, Prod.mk.injEq, Bool.decide_and, Bool.and_true]
    rfl
theorem eqv_prs (ps qs : List (Int × Int)) : PyData.eqv (prsD ps) (prsD qs) = decide (ps = qs) := by
  simp only [prsD, PyData.eqv, eqvAll_prs]
theorem shaped_prs (ps : List (Int × Int)) : SeqAt.shaped (prsD ps) = true := by
  have c : ∀ ps : List (Int × Int), PyData.canLayAll0 (ps.map prD) = true := by
    intro ps
    induction ps with
    | nil => simp [PyData.canLayAll0]
    | cons n r ih => simp [PyData.canLayAll0, PyData.canLay0, prD, ih]
  have d : ∀ ps : List (Int × Int), PyData.depthAll (ps.map prD) ≤ 1 := by
    intro ps
    induction ps with
    | nil => simp [PyData.depthAll]
    | cons n r ih =>
      simp only [List.map_cons, PyData.depthAll, prD, PyData.depth]
      exact Nat.max_le.mpr ⟨by decide, ih⟩
  have := d ps
  unfold SeqAt.shaped prsD
  simp [PyData.canLay0, c, PyData.depth]
  omega
theorem t_eqPrs {ps qs : List (Int × Int)} (ha : Dt L (.ref a) (prsD ps)) (hb : Dt L (.ref b) (prsD qs)) (k : Tr L fun H => Q (.bl (decide (ps = qs))) H) : Tr L fun H => rEqD K (.ref a) (.ref b) H Q :=
  t_eqD ha.dpl hb.dpl (shaped_prs ps) (shaped_prs qs) (by rw [eqv_prs]; exact k)
theorem t_nePrs {ps qs : List (Int × Int)} (ha : Dt L (.ref a) (prsD ps)) (hb : Dt L (.ref b) (prsD qs)) (k : Tr L fun H => Q (.bl (!decide (ps = qs))) H) : Tr L fun H => rNeD K (.ref a) (.ref b) H Q :=
  t_neD ha.dpl hb.dpl (shaped_prs ps) (shaped_prs qs) (by rw [eqv_prs]; exact k)
end
end Hz
namespace Hz
open PySem PySem.Spec PyProof.Rows L2 RZ
/-- ways come together: two ints, o otherwise known -/
theorem t_joinP {L : Lg} {G : Hp → Prop} {T : Int → Int → Hp → Prop} (X : Int → Int → HO → Lg) (J : Int → Int → HO → Prop) (k : (∀ i j o M, J i j o → Sub M (X i j o) → Tr M (T i j)) → Tr L G) (main : ∀ i j o, J i j o → Tr (X i j o) (T i j)) : Tr L G := k fun i j o M h s => (main i j o h).sub s
end Hz
namespace Hz
open PySem PySem.Spec PyProof.Rows L2 RZ
/-- ns[:i], i may lie behind the end -/
theorem cutI_upto {ns : List Int} {i : Int} (h0 : 0 ≤ i) : cutI ns none (some i) = ns.take i.toNat := by
  unfold cutI
  have e : HT.sIx ns.length ns.length (some i) = min i.toNat ns.length := by
    show (if i < 0 then _ else min i.toNat ns.length) = min i.toNat ns.length
    rw [if_neg (by omega)]
  rw [e]
  show (ns.drop 0).take (min i.toNat ns.length - 0) = ns.take i.toNat
  rw [List.drop_zero, Nat.sub_zero, ← List.take_take, List.take_length]
end Hz
namespace Hz
open PySem PySem.Spec PyProof.Rows L2 RZ
/-- part of what is known bears a name from here on -/
theorem t_gen {α : Type} {L : Lg} {G : Hp → Prop} (X : α → Lg) (J : α → Prop) (y : α) (hJ : J y) (s : Sub L (X y)) (main : ∀ y, J y → Tr (X y) G) : Tr L G := (main y hJ).sub s
theorem fl_nil {α : Type} {b : Nat → Bool} {o : Nat → α} {n : Nat} : fl b o n = [] ↔ ∀ i, i < n → b i = false := by
  unfold fl
  rw [List.map_eq_nil_iff, List.filter_eq_nil_iff]
  constructor
  · intro h i hi
    exact Bool.eq_false_iff.mpr (h i (List.mem_range.mpr hi))
  · intro h i hi
    rw [h i (List.mem_range.mp hi)]; decide
/-- a comprehension's emptiness: all do -/
theorem fl_all_eq {α : Type} [Inhabited α] (ps : List α) (f : α → Bool) (o : Nat → Int) : decide (fl (fun t => !f (ps.getD t default)) o ps.length = []) = ps.all f := by
  rw [Bool.eq_iff_iff, decide_eq_true_eq, fl_nil, List.all_eq_true]
  constructor
  · intro h x hx
    obtain ⟨i, hi⟩ := List.mem_iff_getElem?.mp hx
    have := h i (List.getElem?_eq_some_iff.mp hi).1
    rw [List.getD_eq_getElem?_getD, hi] at this
    simpa using this
  · intro h i hi
    have := h ps[i] (List.getElem_mem hi)
    rw [List.getD_eq_getElem?_getD, List.getElem?_eq_getElem hi]
    simpa using this
theorem getD_of {α : Type} [Inhabited α] {ps : List α} {i : Nat} {x : α} (h : ps[i]? = some x) : ps.getD i default = x := by rw [List.getD_eq_getElem?_getD, h]; rfl
end Hz
namespace Hz
open PySem PySem.Spec PyProof.Rows L2 RZ
theorem Prs.pick {L : Lg} {xs : List V} {ps : List (Int × Int)} (h : Prs L xs ps) {i : Int} (h0 : 0 ≤ i) (h1 : i < ps.length) : ∃ T p, L2.atI xs i = some (.ref T) ∧ ps[i.toNat]? = some p ∧ p ∈ ps ∧ (T, .tup [.int p.1, .int p.2]) ∈ L := by
  have hl := h.len
  have hv : xs[i.toNat]? = some (xs[i.toNat]'(by omega)) := List.getElem?_eq_getElem (by omega)
  obtain ⟨T, p, e, e2, m⟩ := h.at hv
  rw [e] at hv
  have := atI_nat hv
  rw [Int.toNat_of_nonneg h0] at this
  exact ⟨T, p, this, e2, List.mem_of_getElem? e2, m⟩
end Hz
namespace Hz
open PySem PySem.Spec PyProof.Rows L2 RZ
/-- ns[i:], i may lie behind the end -/
theorem cutI_after {ns : List Int} {i : Int} (h0 : 0 ≤ i) : cutI ns (some i) none = ns.drop i.toNat := by
  unfold cutI
  have e : HT.sIx ns.length 0 (some i) = min i.toNat ns.length := by
    show (if i < 0 then _ else min i.toNat ns.length) = min i.toNat ns.length
    rw [if_neg (by omega)]
  rw [e]
  show (ns.drop (min i.toNat ns.length)).take (ns.length - min i.toNat ns.length) = ns.drop i.toNat
  rw [List.take_of_length_le (by rw [List.length_drop]; exact Nat.le_refl _)]
  by_cases c : i.toNat ≤ ns.length
  · rw [Nat.min_eq_left c]
  · rw [Nat.min_eq_right (by omega), List.drop_length, List.drop_of_length_le (by omega)]
end Hz
namespace Hz
open PySem PySem.Spec PyProof.Rows L2 RZ
/-! ### lists of lists of ints -/
def rwD (r : List Int) : PyData := .list (r.map PyData.int)
/-- xs are lists of ints -/
def Rws (L : Lg) (xs : List V) (rs : List (List Int)) : Prop := DtAll L xs (rs.map rwD)
theorem Dt.rw_inv {L : Lg} {x : V} {r : List Int} (h : Dt L x (rwD r)) : ∃ T, x = .ref T ∧ (T, .lst (r.map V.int)) ∈ L := by
  unfold rwD at h
  cases h with
  | lst m q =>
    rename_i a xs
    have : ∀ {xs : List V} {zs : List Int}, DtAll L xs (zs.map PyData.int) → xs = zs.map V.int := by
      intro xs
      induction xs with
      | nil => intro zs h; cases zs <;> first | rfl | cases h
      | cons x r ih =>
        intro zs h
        cases zs with
        | nil => cases h
        | cons z s =>
          cases h with
          | cons h1 h2 =>
            cases h1
            rw [ih h2]; rfl
    rw [this q] at m
    exact ⟨_, rfl, m⟩
theorem Rws.len {L : Lg} {xs : List V} {rs : List (List Int)} (h : Rws L xs rs) : xs.length = rs.length := by
  have := DtAll.len h
  rwa [List.length_map] at this
theorem Rws.at {L : Lg} {xs : List V} {rs : List (List Int)} (h : Rws L xs rs) {i : Nat} {v : V} (e : xs[i]? = some v) : ∃ T r, v = .ref T ∧ rs[i]? = some r ∧ (T, .lst (r.map V.int)) ∈ L := by
  obtain ⟨d, e1, hd⟩ := DtAll.get h e
  rw [List.getElem?_map] at e1
  cases e2 : rs[i]? with
  | none => rw [e2] at e1; cases e1
  | some r =>
    rw [e2] at e1
    cases e1
    obtain ⟨T, rfl, m⟩ := hd.rw_inv
    exact ⟨T, r, rfl, rfl, m⟩
theorem Rws.mono {L M : Lg} (s : ∀ p ∈ L, p ∈ M) {xs : List V} {rs : List (List Int)} (h : Rws L xs rs) : Rws M xs rs := DtAll.mono s h
theorem Rws.app {L : Lg} {xs ys : List V} {ps qs : List (List Int)} (h : Rws L xs ps) (h2 : Rws L ys qs) : Rws L (xs ++ ys) (ps ++ qs) := by
  unfold Rws
  rw [List.map_append]
  exact DtAll.app h h2
theorem Rws.one {L : Lg} {T : Addr} {r : List Int} (m : (T, .lst (r.map V.int)) ∈ L) : Rws L [.ref T] [r] := .cons (Dt.ints m) .nil
theorem Rws.snoc {L : Lg} {xs : List V} {rs : List (List Int)} {T : Addr} {r : List Int} (h : Rws L xs rs) (m : (T, .lst (r.map V.int)) ∈ L) : Rws L (xs ++ [.ref T]) (rs ++ [r]) := h.app (.one m)
theorem Rws.set {L : Lg} {xs : List V} {rs : List (List Int)} {T : Addr} {r : List Int} (i : Nat) (h : Rws L xs rs) (m : (T, .lst (r.map V.int)) ∈ L) : Rws L (xs.set i (.ref T)) (rs.set i r) := by
  unfold Rws
  rw [List.map_set]
  exact DtAll.set i h (Dt.ints m)
theorem Rws.pick {L : Lg} {xs : List V} {rs : List (List Int)} (h : Rws L xs rs) {i : Int} (h0 : 0 ≤ i) (h1 : i < rs.length) : ∃ T r, L2.atI xs i = some (.ref T) ∧ rs[i.toNat]? = some r ∧ r ∈ rs ∧ (T, .lst (r.map V.int)) ∈ L := by
  have hl := h.len
  have hv : xs[i.toNat]? = some (xs[i.toNat]'(by omega)) := List.getElem?_eq_getElem (by omega)
  obtain ⟨T, p, e, e2, m⟩ := h.at hv
  rw [e] at hv
  have := atI_nat hv
  rw [Int.toNat_of_nonneg h0] at this
  exact ⟨T, p, this, e2, List.mem_of_getElem? e2, m⟩
/-- a comprehension's emptiness, the other way -/
theorem fl_any_eq {α : Type} [Inhabited α] (ps : List α) (f : α → Bool) (o : Nat → Int) : decide (fl (fun t => f (ps.getD t default)) o ps.length = []) = !ps.any f := by
  have h := fl_all_eq ps (fun x => !f x) o
  simp only [Bool.not_not] at h
  rw [h, List.not_any_eq_all_not]
end Hz
namespace Hz
open PySem PySem.Spec PyProof.Rows L2 RZ
/-- a value by two ways, what follows is walked once -/
theorem t_ifV {α : Type} {L : Lg} {σ σ' : SS} {b : Bool} {ta tb : TE} {Q : VK} (S : α → V) (X : α → Lg) (J : α → Prop) (h1 : b = true → ∀ Q : VK, (∀ y, J y → ∀ M, Sub M (X y) → Tr M fun H => Q (S y) H) → Tr L fun H => ta σ H Q)
    (h2 : b = false → ∀ Q : VK, (∀ y, J y → ∀ M, Sub M (X y) → Tr M fun H => Q (S y) H) → Tr L fun H => tb σ' H Q) (k : ∀ y, J y → Tr (X y) fun H => Q (S y) H) : Tr L fun H => if b = true then ta σ H Q else tb σ' H Q :=
  t_ite (fun h => h1 h Q fun y j _ s => (k y j).sub s) fun h => h2 h Q fun y j _ s => (k y j).sub s
end Hz
namespace Hz
open PySem PySem.Spec PyProof.Rows L2 RZ
theorem Sub.keep : ∀ (N : Lg) {L M : Lg}, Sub L M → Sub (N ++ L) (N ++ M)
  | [], _, _, h => h
  | _ :: N, _, _, h => .take .head (Sub.keep N h)
end Hz

/-! Hz, part K: dicts by the ledger. -/
namespace Hz
open PySem PySem.Spec PyProof.Rows L2 RZ
theorem RoomG.u1 {k : Nat} {A : Around} (r : RoomG k A) : A.units + 1 < cLine := by have := r.rm.un; omega
/-- what an int key holds -/
def dv (kvs : List (Key × V)) (i : Int) : Option V := valV kvs (Sum.inl i)
theorem dv_nil (i : Int) : dv [] i = none := rfl
theorem dv_put (kvs : List (Key × V)) (k j : Int) (v : V) : dv (putK kvs (Sum.inl k) v) j = if j = k then some v else dv kvs j := by
  unfold dv
  rw [valV_put]
  by_cases c : j = k
  · rw [if_pos c, if_pos (by rw [c])]
  · rw [if_neg c, if_neg (fun e => c (by injection e))]
/-- the keys are few -/
structure Few (n : Nat) (kvs : List (Key × V)) : Prop where
  nd : (kvs.map (·.1)).Nodup
  rg : ∀ p ∈ kvs, ∃ i : Int, p.1 = Sum.inl i ∧ 0 ≤ i ∧ i < n
theorem Few.nil (n : Nat) : Few n [] := ⟨List.nodup_nil, fun _ h => nomatch h⟩
theorem few_ints : ∀ (B : Nat) (ks : List Int), ks.Nodup → (∀ k ∈ ks, 0 ≤ k ∧ k < B) → ks.length ≤ B
  | 0, [], _, _ => Nat.le_refl _
  | 0, k :: r, _, h => absurd (h k (.head _)) (by omega)
  | B + 1, ks, nd, h => by
    have a := few_ints B (ks.filter fun k => decide (k ≠ (B : Int))) (nd.filter _) fun k hk => by
      obtain ⟨h1, h2⟩ := List.mem_filter.mp hk
      have := h k h1
      have := of_decide_eq_true h2
      omega
    have b : ks.length ≤ (ks.filter fun k => decide (k ≠ (B : Int))).length + 1 := by
      clear a h
      induction ks with
      | nil => simp
      | cons k r ih =>
        have nr := List.nodup_cons.mp nd
        by_cases c : k = (B : Int)
        · have : (r.filter fun k => decide (k ≠ (B : Int))) = r := List.filter_eq_self.mpr fun x hx => decide_eq_true fun e => nr.1 (by rw [c, ← e]; exact hx)
          rw [List.filter_cons, if_neg (by rw [decide_eq_true_eq]; exact fun h => h c), this, List.length_cons]
          exact Nat.le_refl _
        · rw [List.filter_cons, if_pos (decide_eq_true c), List.length_cons, List.length_cons]
          have := ih nr.2
          omega
    omega
theorem Few.len {n : Nat} {kvs : List (Key × V)} (h : Few n kvs) : kvs.length ≤ n := by
  have key : ∀ {l : List (Key × V)}, (l.map (·.1)).Nodup → (∀ p ∈ l, ∃ i : Int, p.1 = Sum.inl i ∧ 0 ≤ i ∧ i < n) → ∃ ks : List Int, l.map (·.1) = ks.map Sum.inl ∧ ∀ k ∈ ks, 0 ≤ k ∧ k < n := fun {l} _ hr => by
    induction l with
    | nil => exact ⟨[], rfl, fun _ h => nomatch h⟩
    | cons p r ih =>
      rename_i hnd
      obtain ⟨i, e, b⟩ := hr p (.head _)
      obtain ⟨ks, e2, b2⟩ := ih (List.nodup_cons.mp hnd).2 fun q hq => hr q (.tail _ hq)
      refine ⟨i :: ks, by rw [List.map_cons, e, e2]; rfl, fun k hk => ?_⟩
      rcases List.mem_cons.mp hk with rfl | hk
      · exact b
      · exact b2 k hk
  obtain ⟨ks, e, b⟩ := key h.nd h.rg
  have nd := h.nd
  rw [e] at nd
  have nd2 : ks.Nodup := by
    refine (List.pairwise_map.mp nd).imp fun {a b} h e => h (by rw [e])
  have := few_ints n ks nd2 b
  have el : kvs.length = ks.length := by rw [← List.length_map (f := (·.1)) (as := kvs), e, List.length_map]
  omega
theorem Few.put {n : Nat} {kvs : List (Key × V)} (h : Few n kvs) {i : Int} (h0 : 0 ≤ i) (h1 : i < n) (v : V) : Few n (putK kvs (Sum.inl i) v) := by
  unfold putK
  split
  · refine ⟨?_, fun p hp => ?_⟩
    · rw [List.map_map]
      have : ((fun kv : Key × V => kv.1) ∘ fun kv : Key × V => if kv.1 = Sum.inl i then (kv.1, v) else kv) = fun kv => kv.1 := by
        funext kv
        show (if kv.1 = Sum.inl i then (kv.1, v) else kv).1 = kv.1
        split <;> rfl
      rw [this]
      exact h.nd
    · obtain ⟨q, hq, e⟩ := List.mem_map.mp hp
      obtain ⟨j, ej, bj⟩ := h.rg q hq
      refine ⟨j, ?_, bj⟩
      rw [← e]
      split
      · exact ej
      · exact ej
  · rename_i c
    refine ⟨?_, fun p hp => ?_⟩
    · rw [List.map_append, List.map_cons, List.map_nil]
      refine List.nodup_append.mpr ⟨h.nd, by simp, fun a ha b hb => ?_⟩
      rw [List.mem_singleton.mp hb]
      rintro rfl
      obtain ⟨q, hq, e⟩ := List.mem_map.mp ha
      exact c (List.any_eq_true.mpr ⟨q, hq, decide_eq_true e⟩)
    · rcases List.mem_append.mp hp with hp | hp
      · exact h.rg p hp
      · rw [List.mem_singleton.mp hp]; exact ⟨i, rfl, h0, h1⟩
/-! ### readings -/
def dIn (x y : V) (H : Hp) (Q : VK) : Prop := ∃ a o, x = .ref a ∧ DGet H a y o ∧ Q (.bl o.isSome) H
def dNotIn (x y : V) (H : Hp) (Q : VK) : Prop := ∃ a o, x = .ref a ∧ DGet H a y o ∧ Q (.bl (!o.isSome)) H
def dAt (x y : V) (H : Hp) (Q : VK) : Prop := ∃ a v, x = .ref a ∧ DGet H a y (some v) ∧ Q v H
def dGet1 (a : Addr) (y : V) (H : Hp) (Q : VK) : Prop := ∃ o, DGet H a y o ∧ Q (o.getD .non) H
def dPut (x y v : V) (H : Hp) (G : Hp → Prop) : Prop := ∃ a H4, x = .ref a ∧ DPut H a y v H4 ∧ G H4
section
variable {L R R' : Lg} {σ : SS} {Q : VK} {a b : Addr} {kvs : List (Key × V)} {tvs : List (List Key × V)} {td ty tv : TE} {D : Ends} {i j : Int} {v : V} {G : Hp → Prop}
theorem t_din (k : Tr L fun H => ty σ H fun y H1 => td σ H1 fun x H2 => dIn x y H2 Q) : Tr L fun H => tDIn ty td σ H Q := k
theorem t_dnin (k : Tr L fun H => ty σ H fun y H1 => td σ H1 fun x H2 => dNotIn x y H2 Q) : Tr L fun H => tDNotIn ty td σ H Q := k
theorem t_dix (k : Tr L fun H => td σ H fun x H1 => ty σ H1 fun y H2 => dAt x y H2 Q) : Tr L fun H => tDGet td ty σ H Q := k
theorem t_dg1 (k : Tr L fun H => td σ H fun x H1 => ∃ a, x = .ref a ∧ IsD H1 a ∧ ty σ H1 fun y H2 => dGet1 a y H2 Q) : Tr L fun H => tDGet1 td ty σ H Q := k
theorem t_dput (k : Tr L fun H => tv σ H fun v H1 => td σ H1 fun x H2 => ty σ H2 fun y H3 => dPut x y v H3 fun H4 => D.nx σ H4) : Tr L fun H => sDPut td ty tv D σ H := k
theorem t_isDk {G : Addr → Hp → Prop} (hp : Pick a (.dK kvs) L R) (k : Tr L (G a)) : Tr L fun H => ∃ a', V.ref a = .ref a' ∧ IsD H a' ∧ G a' H := fun H l => ⟨a, rfl, .inl ⟨_, .inl (l.get hp)⟩, k H l⟩
theorem t_dinK (hp : Pick a (.dK kvs) L R) (k : Tr L fun H => Q (.bl (dv kvs i).isSome) H) : Tr L fun H => dIn (.ref a) (.int i) H Q := fun H l => ⟨a, _, rfl, DGet.k (k := Sum.inl i) (l.get hp), k H l⟩
theorem t_dninK (hp : Pick a (.dK kvs) L R) (k : Tr L fun H => Q (.bl (!(dv kvs i).isSome)) H) : Tr L fun H => dNotIn (.ref a) (.int i) H Q := fun H l => ⟨a, _, rfl, DGet.k (k := Sum.inl i) (l.get hp), k H l⟩
theorem t_datK (hp : Pick a (.dK kvs) L R) (hv : dv kvs i = some v) (k : Tr L fun H => Q v H) : Tr L fun H => dAt (.ref a) (.int i) H Q := fun H l => ⟨a, v, rfl, by rw [← hv]; exact DGet.k (k := Sum.inl i) (l.get hp), k H l⟩
theorem t_dgetK (hp : Pick a (.dK kvs) L R) (k : Tr L fun H => Q ((dv kvs i).getD .non) H) : Tr L fun H => dGet1 a (.int i) H Q := fun H l => ⟨_, DGet.k (k := Sum.inl i) (l.get hp), k H l⟩
theorem t_dputK (hp : Pick a (.dK kvs) L R) (hz : kvs.length < sizeLine) (k : Tr ((a, .dK (putK kvs (Sum.inl i) v)) :: R) G) : Tr L fun H => dPut (.ref a) (.int i) v H G :=
  fun H l => ⟨a, _, rfl, DPut.k (k := Sum.inl i) (l.get hp) hz, k _ (l.pick hp).put⟩
/-- keys that are two ints -/
def dv2 (tvs : List (List Key × V)) (i j : Int) : Option V := valV tvs [Sum.inl i, Sum.inl j]
theorem t_dinT (hp : Pick a (.dT tvs) L R) (hq : (b, .tup [.int i, .int j]) ∈ L) (k : Tr L fun H => Q (.bl (dv2 tvs i j).isSome) H) : Tr L fun H => dIn (.ref a) (.ref b) H Q :=
  fun H l => ⟨a, _, rfl, DGet.t (k := [Sum.inl i, Sum.inl j]) (l.get hp) (l.has _ hq), k H l⟩
theorem t_dputT (hp : Pick a (.dT tvs) L R) (hq : (b, .tup [.int i, .int j]) ∈ R) (hz : tvs.length < sizeLine) (k : Tr ((a, .dT (putK tvs [Sum.inl i, Sum.inl j] v)) :: R) G) : Tr L fun H => dPut (.ref a) (.ref b) v H G :=
  fun H l => ⟨a, _, rfl, DPut.t (k := [Sum.inl i, Sum.inl j]) (l.get hp) ((l.pick hp).has _ (.tail _ hq)) hz, k _ (l.pick hp).put⟩
theorem t_dnewT (k : ∀ p, Tr ((p, .dT []) :: L) fun H => Q (.ref p) H) : Tr L fun H => tDNewT σ H Q := fun H l p hp => k p _ (l.new hp)
end
end Hz
namespace Hz
open PySem PySem.Spec PyProof.Rows L2 RZ
/-! ### dict comprehensions -/
section
variable {L M : Lg} {σ σ0 : SS} {K : PySem.W.Frag} {wi : TI} {g : TG} {tt : TT} {tk tv : TE} {vs : List Nat} {Q : VK}
/-- a pair is put into the new dict -/
def dcAdd (D : Addr) (N : Hp → Prop) (y z : V) (H : Hp) : Prop := ∃ kvs k, y = kV k ∧ H D = some (.dK kvs) ∧ kvs.length < sizeLine ∧ N (upd H D (.dK (putK kvs k z)))
def dcK (g : TG) (tt : TT) (tk tv : TE) (vs : List Nat) (σ : SS) (Q : VK) (J : It) (H1 : Hp) : Prop := ∀ D, H1 D = none → ∃ W : Nat → Nat → Hp → Prop, (∃ m, W 0 m (upd H1 D (.dK []))) ∧ ∀ i m H, W i m H →
  (J.stop i H ∧ Q (.ref D) H) ∨ (J.go i H ∧ ∃ Nx : Hp → Prop, (∀ H', Nx H' → ∃ m', m' < m ∧ W (i + 1) m' H') ∧ ∀ x H', J.yld i H x H' → g x (wipe σ vs) H' fun σ2 H2 => wipe σ2 vs = wipe σ vs ∧ tt σ2 H2 fun b H3 =>
    if b = true then tk σ2 H3 fun y H4 => tv σ2 H4 fun z H5 => dcAdd D Nx y z H5 else Nx H3)
theorem t_dc (k : Tr L fun H => wi σ H (dcK g tt tk tv vs σ Q)) : Tr L fun H => tDc wi g tt tk tv vs σ H Q := k
def dcNx (M : Lg) (I : Nat → List (Key × V) → Prop) (D : Addr) (i : Nat) (H : Hp) : Prop := ∃ kvs, I i kvs ∧ Led H ((D, .dK kvs) :: M)
theorem t_dcAdd {R : Lg} {I : Nat → List (Key × V) → Prop} {D : Addr} {i : Nat} {kvs : List (Key × V)} {k : Int} {v : V} (hp : Pick D (.dK kvs) L R) (hz : kvs.length < sizeLine) (hI : I i (putK kvs (Sum.inl k) v)) (hM : Sub R M) :
    Tr L fun H => dcAdd D (dcNx M I D i) (.int k) v H := fun H l => ⟨kvs, Sum.inl k, rfl, l.get hp, hz, _, hI, (l.pick hp).put.sub (.take .head hM)⟩
theorem t_dcK {J : It} {n : Nat} {val : Nat → V → Lg → Prop} {Src : Lg → Prop} (wk : Wk J n val Src) (hw : wipe σ vs = σ0) (M : Lg) (I : Nat → List (Key × V) → Prop) (hM : Sub L M) (h0 : I 0 []) (hsrc : ∀ x, Src (x :: M))
    (hs : ∀ D i kvs v L', i < n → I i kvs → val i v L' → Tr (L' ++ (D, .dK kvs) :: M) fun H => g v σ0 H fun σ2 H2 => wipe σ2 vs = σ0 ∧ tt σ2 H2 fun b H3 =>
      if b = true then tk σ2 H3 fun y H4 => tv σ2 H4 fun z H5 => dcAdd D (dcNx M I D (i + 1)) y z H5 else dcNx M I D (i + 1) H3)
    (hd : ∀ D kvs, I n kvs → Tr ((D, .dK kvs) :: M) fun H => Q (.ref D) H) : Tr L fun H => dcK g tt tk tv vs σ Q J H := by
  intro H l D hD
  refine ⟨fun i m H' => m = n - i ∧ i ≤ n ∧ dcNx M I D i H', ⟨n, by simp, Nat.zero_le _, [], h0, (l.new hD).sub (.take .head hM)⟩, ?_⟩
  rintro i m H' ⟨rfl, hi, kvs, iy, ly⟩
  by_cases h : i < n
  · refine .inr ⟨wk.go _ _ i (hsrc _) ly h, dcNx M I D (i + 1), fun H2 p => ⟨n - (i + 1), by omega, rfl, h, p⟩, fun v H2 yl => ?_⟩
    obtain ⟨L', hv, l'⟩ := wk.yld _ _ i v H2 (hsrc _) ly h yl
    rw [hw]
    exact hs D i kvs v L' h iy hv H2 l'
  · obtain rfl : i = n := by omega
    exact .inl ⟨wk.stop _ _ (hsrc _) ly, hd D kvs iy H' ly⟩
end
end Hz
namespace Hz
open PySem PySem.Spec PyProof.Rows L2 RZ
section
variable {X : Cx}
/-- name = {..} on one line, the name a local -/
theorem ps_setDc {i : Nat} {y : Str} {py : Pos} {kx vx tg iter : Expr} {ifs : List Expr} {scope : Scope} {own : List (Str × Nat)} {pos spos : Pos} {wi : TI} {g : TG} {tt : TT} {tk tv : TE} (hc : X.calm = true) (hN : X.N.Nodup) (hy : X.N[i]? = some y) (hyl : X.env.scope.names.lookup y = some .local)
    (hsw : swapsWith (.DictComp kx vx [⟨tg, iter, ifs, 0⟩] scope pos) (some (.Name y py)) spos.line X.env = pure true) (hi : PI X tg iter wi) (ok : BlkOk X.N X.env.scope scope own)
    (hg : ∀ (s : Shared) (H : Hp) (C : Addr) (cl : List (Str × Addr)) (fp : List Addr), PG (X.blk s H scope (compEnvC scope cl C X.env) fp) tg g) (ht : ∀ (s : Shared) (H : Hp) (C : Addr) (cl : List (Str × Addr)) (fp : List Addr), PTs (X.blk s H scope (compEnvC scope cl C X.env) fp) ifs tt)
    (hk : ∀ (s : Shared) (H : Hp) (C : Addr) (cl : List (Str × Addr)) (fp : List Addr), PE (X.blk s H scope (compEnvC scope cl C X.env) fp) kx tk)
    (he : ∀ (s : Shared) (H : Hp) (C : Addr) (cl : List (Str × Addr)) (fp : List Addr), PE (X.blk s H scope (compEnvC scope cl C X.env) fp) vx tv) (hs : ∀ x, foldedSetIterable iter X.env x = pure x := by intro _; rfl) :
    PS X (.Assign [.Name y py] (.DictComp kx vx [⟨tg, iter, ifs, 0⟩] scope pos) spos) (tAsg (tDc wi g tt tk tv (own.map (·.2))) (gName i)) := by
  refine ⟨fun pins s σ H D I h => ?_⟩
  rw [exec_Assign_Name_used _ _ _ _ hsw]
  refine wpAny_bind (wpAny_standAt (wpAny_bind ?_))
  show wpAny _ X.A (do let _ ← comprehension (.DictComp kx vx [⟨tg, iter, ifs, 0⟩] scope pos) scope X.env (firstIterPos [⟨tg, iter, ifs, 0⟩] pos) newDict false (eval iter X.env) (some (assign (.Name y py) X.env))) _ _ s
  have h : tDc wi g tt tk tv (own.map (·.2)) σ H (fun x H1 => gName i x σ H1 D.nx) := h
  refine wpAny_bind (thn (dc_core (Qf := fun _ s' => SP X pins D .next s') hc hN I hi ok hg ht hk he hs h fun L C s' m H' I' q hn f => ?_) fun _ s' hq => wpAny_pure (wpAny_pure hq))
  show wpAny _ _ (assign (.Name y py) X.env (.ref L)) _ _ _
  refine wpAny_assign_Name (store_ok2 (v := V.ref L) I' hN hy (.inl hyl) rfl (fun s2 I2 ⟨a, sb, ha⟩ => ?_) (.inr hyl))
  obtain ⟨f0, f1, f2, f3, f4, f5⟩ := f
  have haC : C ≠ a := by
    rcases ha with z | z
    · rw [z]; exact f1
    · exact fun e => f4 y a z e.symm
  refine ⟨m, hn.sameBut sb haC, fun h3 sb3 => ?_⟩
  exact ⟨_, H', I2.turned (t' := s2.toks) (fun b o hb e => (sb3.2 b hb).trans e) f0 f1 f3 f4 f5, q⟩
theorem sw_trueD {kx vx : Expr} {gs : List Comprehension} {scope : Scope} {pos py : Pos} {y : Str} {l : Nat} {env : Env} (hk : env.scope.kind = .function) (hy : env.scope.names.lookup y = some .local) (hl : (py.line == pos.line) = true)
    (ha : (scope.names.any fun (n, k) => n == y && (k == .local || k == .cell)) = false) : swapsWith (.DictComp kx vx gs scope pos) (some (.Name y py)) l env = pure true := by
  have ky : env.kindOf y = some .local := hy
  have hb : env.blockKind = .function := by unfold Env.blockKind; rw [hk]; rfl
  unfold swapsWith
  simp only [hb, ky, ha, Expr.pos, hl]
  rfl
end
end Hz

/-! Hz, part V: xs[-2::-1]. -/
namespace Hz
open PySem PySem.Spec PyProof.Rows L2 RZ
theorem rev2_bounds (n : Nat) : sliceBounds (some (-2)) none (some (-1)) n = (max ((n : Int) - 2) (-1), -1, -1) := by
  simp [sliceBounds]
  omega
theorem rev2_pick (items : Array Value) : slicePick items (some (-2)) none (some (-1)) = items.toList.dropLast.reverse.toArray := by
  unfold slicePick
  rw [rev2_bounds]
  show ((sliceRange (max ((items.size : Int) - 2) (-1)) (-1) (-1)).filterMap (items[·]?)).toArray = _
  congr 1
  have e : sliceRange (max ((items.size : Int) - 2) (-1)) (-1) (-1) = (List.range (items.size - 1)).map fun k => (items.size - 1) - 1 - k := by
    have := PySem.W.krv_sliceRange (items.size - 1)
    by_cases h : 1 ≤ items.size
    · rw [← this]
      congr 1
      omega
    · rw [← this]
      have : items.size = 0 := by omega
      rw [this]
      rfl
  rw [e, PySem.W.krv_range, List.filterMap_reverse]
  congr 1
  have h := pick_run items 0 (items.size - 1)
  rw [show (List.range (items.size - 1)).map (0 + ·) = List.range (items.size - 1) by
    rw [show ((0 + ·) : Nat → Nat) = id from funext fun k => Nat.zero_add k, List.map_id], List.drop_zero] at h
  rw [List.dropLast_eq_take, Array.length_toList]
  exact h
/-- xs[-2::-1] -/
def tRev2 (K : PySem.W.Frag) (te : TE) : TE := fun σ H Q => te σ H fun x H1 => ∃ a xs, x = .ref a ∧ SqL K H1 a xs ∧ ∀ p, H1 p = none → Q (.ref p) (upd H1 p (.lst xs.dropLast.reverse))
section
variable {X : Cx}
theorem paired_dropLast {R : V → Value → Prop} : ∀ {xs : List V} {ys : List Value}, Paired R xs ys → Paired R xs.dropLast ys.dropLast
  | [], [], _ => .nil
  | [_], [_], _ => .nil
  | _ :: _ :: _, _ :: _ :: _, .cons h (.cons h2 r) => .cons h (paired_dropLast (.cons h2 r))
theorem pe_rev2 {e : Expr} {te : TE} {k k0 : Nat} {p1 p2 p3 p4 p5 pos : Pos} (he : PE X e te) : PE X (.Subscript e (.Slice (some (.UnaryOp .USub (.Constant (.int 2) k0 p4) p5)) none (some (.UnaryOp .USub (.Constant (.int 1) k p1) p2)) p3) pos) (tRev2 X.K te) := by
  refine ⟨fun pins s σ H Q I h => ?_⟩
  refine Subscript_ (thn (he.run pins s σ H _ I h) fun v s1 ⟨x, H1, I1, r1, q1⟩ => ?_)
  obtain ⟨a, xs, ex, hx, q⟩ := q1
  subst ex
  cases r1
  have hst : PO X (some (.UnaryOp .USub (.Constant (.int 1) k p1) p2)) (tPart (tUn (rU fun i => .int (-i)) (tC (.int 1)))) := po_some (pe_un un_neg pe_int)
  have hlo : PO X (some (.UnaryOp .USub (.Constant (.int 2) k0 p4) p5)) (tPart (tUn (rU fun i => .int (-i)) (tC (.int 2)))) := po_some (pe_un un_neg pe_int)
  refine wpAny_Slice (thn (hlo.run pins s1 σ H1 (fun o H2 => o = some (-2) ∧ H2 = H1) I1 ⟨2, rfl, -2, rfl, rfl, rfl⟩) fun vl s2 ⟨l, H2, I2, pl, el, e2⟩ => ?_)
  subst el e2
  refine thn (po_none.run pins s2 σ H2 (fun o H3 => o = none ∧ H3 = H2) I2 ⟨rfl, rfl⟩) fun vu s3 ⟨u, H3, I3, pu, eu, e3⟩ => ?_
  subst eu e3
  refine thn (hst.run pins s3 σ H3 (fun o H4 => o = some (-1) ∧ H4 = H3) I3 ⟨1, rfl, -1, rfl, rfl, rfl⟩) fun vs s4 ⟨o, H4, I4, ps, eo, e4⟩ => ?_
  subst eo e4
  have I5 : Inv X pins σ H4 { s4 with heap := s4.heap.push { cls := .type "slice", data := .fields #[vl, vu, vs] } } := I4.kept (t' := s4.toks) fun b ob q => Heap.get?_push_of_some _ q
  obtain ⟨its, r, ht, hz⟩ := I5.list hx
  have hlen := r.length
  show wpAny (model X.prog X.w) X.A (subscriptTail e (.Slice (some (.UnaryOp .USub (.Constant (.int 2) k0 p4) p5)) none (some (.UnaryOp .USub (.Constant (.int 1) k p1) p2)) p3) (.ref a) (.ref s4.heap.objs.size)) (EP X pins σ Q) X.xe { s4 with heap := s4.heap.push { cls := .type "slice", data := .fields #[vl, vu, vs] } }
  refine tail_any (ops := [.ref a, .ref s4.heap.objs.size]) ht.isList.typeIs (PySem.slot_list_getitem.lookup) ?_ (by with_unfolding_all rfl)
  refine wpAny_getItem_list_slice ht.isList (Heap.IsSliceOf.new _ vl vu vs) pl pu ps (by decide) ?_ (by rw [List.size_toArray]; omega)
  rw [rev2_pick]
  refine ⟨.ref _, _, I5.laid (t' := s4.toks) (o := .lst xs.dropLast.reverse) (fun b ob q => Heap.get?_push_of_some _ q) (Nat.le_refl _) ?_, rfl, q _ (I5.hok.fresh (Nat.le_refl _))⟩
  exact ⟨by rw [List.length_reverse, List.length_dropLast]; omega, _, 0, Vals.reverse (xs := xs.dropLast) (paired_dropLast r), Heap.get?_push_size _ rfl⟩
end
section
variable {L R : Lg} {σ : SS} {Q : VK} {K : PySem.W.Frag} {a : Addr} {xs : List V}
def newRev2 (K : PySem.W.Frag) (x : V) (H : Hp) (Q : VK) : Prop := ∃ a xs, x = .ref a ∧ SqL K H a xs ∧ ∀ p, H p = none → Q (.ref p) (upd H p (.lst xs.dropLast.reverse))
theorem t_rev2L {te : TE} (k : Tr L fun H => te σ H fun x H1 => newRev2 K x H1 Q) : Tr L fun H => tRev2 K te σ H Q := k
theorem t_newRev2 (hp : Pick a (.lst xs) L R) (k : ∀ p, Tr ((p, .lst xs.dropLast.reverse) :: L) fun H => Q (.ref p) H) : Tr L fun H => newRev2 K (.ref a) H Q := fun H l => ⟨a, xs, rfl, sqL hp l, fun p hp' => k p _ (l.new hp')⟩
end
end Hz

/-! Hz, part W: list(zip(xs, ys)). -/
namespace Hz
open PySem PySem.W PySem.Calls PyProof.Rows PyProof.V PySem.Spec
theorem zip_no_len : typeLookup (.type "zip") "__len__" = pure none := am_miss_of_fast (by decide +kernel)
theorem zip_no_hint : typeLookup (.type "zip") "__length_hint__" = pure none := am_miss_of_fast (by decide +kernel)
/-- the zip while its tuples are gathered in the list S -/
structure ZlSt (h : Heap) (z TI TO i1 i2 l1 l2 S : Addr) (xs ys : Array Value) (i : Nat) : Prop where
  ti : IsPair h TI (.ref i1) (.ref i2)
  h1 : h.IsListIter i1 l1 i
  h2 : h.IsListIter i2 l2 i
  a1 : h.IsList l1 xs
  a2 : h.IsList l2 ys
  zz : (IsZip h z TI TO .none ∧ ∃ a b, IsPair h TO a b) ∨ ∃ T f oT, IsZipHeld h z TI TO T f ∧ h.get? T = some oT ∧ T ≠ z ∧ T ≠ i1 ∧ T ≠ i2 ∧ T ≠ S
structure ZlOff (z TI TO i1 i2 l1 l2 S : Addr) : Prop where
  z : z < S
  TI : TI < S
  TO : TO < S
  i1 : i1 < S
  i2 : i2 < S
  l1 : l1 < S
  l2 : l2 < S
theorem ZlSt.keep {h h' : Heap} {z TI TO i1 i2 l1 l2 S : Addr} {xs ys : Array Value} {i : Nat} (st : ZlSt h z TI TO i1 i2 l1 l2 S xs ys i) (O : ZlOff z TI TO i1 i2 l1 l2 S) (up : ∀ b o, b ≠ S → h.get? b = some o → h'.get? b = some o) :
    ZlSt h' z TI TO i1 i2 l1 l2 S xs ys i where
  ti := up _ _ (Nat.ne_of_lt O.TI) st.ti
  h1 := st.h1.at fun o e => up _ o (Nat.ne_of_lt O.i1) e
  h2 := st.h2.at fun o e => up _ o (Nat.ne_of_lt O.i2) e
  a1 := st.a1.at fun o e => up _ o (Nat.ne_of_lt O.l1) e
  a2 := st.a2.at fun o e => up _ o (Nat.ne_of_lt O.l2) e
  zz := by
    rcases st.zz with ⟨hz, a, b, hTO⟩ | ⟨T, f, oT, hz, hT, r1, r2, r3, r4⟩
    · exact .inl ⟨up _ _ (Nat.ne_of_lt O.z) hz, a, b, up _ _ (Nat.ne_of_lt O.TO) hTO⟩
    · exact .inr ⟨T, f, oT, up _ _ (Nat.ne_of_lt O.z) hz, up _ _ r4 hT, r1, r2, r3, r4⟩
section
variable {prog : Program} {w : World} {A : Around} {E : Value → Shared → Prop} {s : Shared} {z TI TO i1 i2 l1 l2 S : Addr} {xs ys : Array Value} {i : Nat}
theorem zl_item {Q : Option Value → Shared → Prop} {x y : Value} (D : ZipApart z TI TO i1 i2 l1 l2) (st : ZlSt s.heap z TI TO i1 i2 l1 l2 S xs ys i) (hS : S < s.heap.objs.size) (ex : xs[i]? = some x) (ey : ys[i]? = some y)
    (hQ : ∀ h', ZlSt h' z TI TO i1 i2 l1 l2 S xs ys (i + 1) → IsPair h' s.heap.objs.size x y → (∀ c o, c ≠ z → c ≠ TO → c ≠ i1 → c ≠ i2 → s.heap.get? c = some o → h'.get? c = some o) → Q (some (.ref s.heap.objs.size)) { s with heap := h' }) :
    wpAny (model prog w) A (pyNext (.ref z)) Q E s := by
  obtain ⟨hTI, h1, h2, hl1, hl2, hz⟩ := st
  have lt : ∀ {c o}, s.heap.get? c = some o → s.heap.objs.size ≠ c := fun e => Nat.ne_of_gt (Heap.lt_size e)
  have n1 : s.heap.objs.size ≠ i1 := let ⟨_, e, _⟩ := h1; lt e
  have n2 : s.heap.objs.size ≠ i2 := let ⟨_, e, _⟩ := h2; lt e
  rcases hz with ⟨hz, a, b, hTO⟩ | ⟨T, f, oT, hz, hT, r1, r2, r3, r4⟩
  · refine wpAny_pyNext_zip_item D hz hTI hTO h1 h2 hl1 hl2 ex ey fun h' a1 a2 a3 a4 a5 a6 hk => ?_
    exact hQ h' ⟨hk _ _ D.TIz D.TITO D.TIi1 D.TIi2 hTI, a3, a4, hl1.at fun o e => hk _ o D.l1z D.l1TO D.l1i1 D.l1i2 e, hl2.at fun o e => hk _ o D.l2z D.l2TO D.l2i1 D.l2i2 e,
      .inr ⟨s.heap.objs.size, false, _, a1, a5, lt hz, n1, n2, Nat.ne_of_gt hS⟩⟩ a5 hk
  · refine wpAny_pyNext_zip_item_held D hz hT hTI h1 h2 hl1 hl2 ex ey fun h' a1 a3 a4 a5 a6 hk => ?_
    exact hQ h' ⟨hk _ _ D.TIz D.TIi1 D.TIi2 hTI, a3, a4, hl1.at fun o e => hk _ o D.l1z D.l1i1 D.l1i2 e, hl2.at fun o e => hk _ o D.l2z D.l2i1 D.l2i2 e,
      .inr ⟨T, true, oT, a1, hk _ _ r1 r2 r3 hT, r1, r2, r3, r4⟩⟩ a5 fun c o c1 _ c3 c4 e => hk c o c1 c3 c4 e
theorem zl_done {Q : Option Value → Shared → Prop} (hh : A.handled = none) (D : ZipApart z TI TO i1 i2 l1 l2) (st : ZlSt s.heap z TI TO i1 i2 l1 l2 S xs ys i) (he : xs[i]? = none ∨ ys[i]? = none)
    (hQ : ∀ h', (∀ c o, c ≠ z → c ≠ TO → c ≠ i1 → c ≠ i2 → s.heap.get? c = some o → h'.get? c = some o) → Q none { s with heap := h' }) :
    wpAny (model prog w) A (pyNext (.ref z)) Q E s := by
  obtain ⟨hTI, h1, h2, hl1, hl2, hz⟩ := st
  rcases hz with ⟨hz, a, b, hTO⟩ | ⟨T, f, oT, hz, hT, r1, r2, r3, r4⟩
  · exact wpAny_pyNext_zip_end hh D hz hTI hTO h1 h2 hl1 hl2 he hQ
  · exact wpAny_pyNext_zip_end_held hh D hz hT hTI h1 h2 hl1 hl2 he fun h' hk => hQ h' fun c o c1 _ c3 c4 e => hk c o c1 c3 c4 e
theorem zl_hint (hT : s.TypeIs (.ref z) "zip") {Q : Bool → Shared → Prop} (h : Q true s) : wpAny (model prog w) A (Builtin.List.listLengthHint (.ref z)) Q E s := by
  unfold Builtin.List.listLengthHint
  refine wpAny_bind (wpAny_specialOf hT zip_no_len ?_)
  refine wpAny_bind (wpAny_specialOf hT zip_no_hint ?_)
  exact wpAny_pure h
end
/-- the addresses as hold the pairs, in order; they lie above lo and rise -/
structure ZlG (xs ys : Array Value) (lo : Addr) (h : Heap) (as : List Addr) : Prop where
  rise : as.Pairwise (· < ·)
  above : ∀ a ∈ as, lo < a
  pairs : ∀ (j : Nat) (a : Addr), as[j]? = some a → ∃ x y, xs[j]? = some x ∧ ys[j]? = some y ∧ IsPair h a x y
theorem ZlG.there {xs ys : Array Value} {lo : Addr} {h : Heap} {as : List Addr} (g : ZlG xs ys lo h as) {a : Addr} (ha : a ∈ as) : a < h.objs.size := by
  obtain ⟨j, hj⟩ := List.mem_iff_getElem?.mp ha
  obtain ⟨_, _, _, _, e⟩ := g.pairs j a hj
  exact Heap.lt_size e
section
variable {prog : Program} {w : World} {A : Around} {s : Shared} {R : Result → Shared → Prop} {xs ys : Array Value} {z TI TO i1 i2 l1 l2 S : Addr}
theorem zl_loop (hh : A.handled = none) (D : ZipApart z TI TO i1 i2 l1 l2) (O : ZlOff z TI TO i1 i2 l1 l2 S) (hn : min xs.size ys.size ≤ sizeLine) (res : Value) {h₁ : Heap} (hb₁ : ∀ b o, h₁.get? b = some o → b ≤ S)
    (hR : ∀ h' tk acc c as, (∀ b o, b ≠ S → b ≠ z → b ≠ TO → b ≠ i1 → b ≠ i2 → h₁.get? b = some o → h'.get? b = some o) → h'.get? S = some { cls := .type "list", dict := none, data := .seq acc c, slots := #[] } → as.length = min xs.size ys.size → ZlG xs ys S h' as →
      acc.toList = as.map Value.ref → R (.ok (.ret res)) { s with heap := h', toks := tk }) :
    ∀ (k i : Nat) (h : Heap) (tk c : Nat) (acc : Array Value) (as : List Addr), min xs.size ys.size - i = k → i ≤ min xs.size ys.size → ZlSt h z TI TO i1 i2 l1 l2 S xs ys i → (∀ b o, b ≠ S → b ≠ z → b ≠ TO → b ≠ i1 → b ≠ i2 → h₁.get? b = some o → h.get? b = some o) →
      h.get? S = some { cls := .type "list", dict := none, data := .seq acc c, slots := #[] } → acc.toList = as.map Value.ref → as.length = i → ZlG xs ys S h as →
      codeAny (model prog w) A (.builtin "list.extend.loop" ⟨[.ref S, .ref z, res], []⟩) R { s with heap := h, toks := tk } := by
  have sz : S ≠ z := Nat.ne_of_gt O.z
  have sTO : S ≠ TO := Nat.ne_of_gt O.TO
  have s1 : S ≠ i1 := Nat.ne_of_gt O.i1
  have s2 : S ≠ i2 := Nat.ne_of_gt O.i2
  intro k
  induction k with
  | zero =>
    intro i h tk c acc as hk hi hst hkeep hS hacc hal hG
    have hin : i = min xs.size ys.size := by omega
    refine codeAny_builtin PySem.F.entry_extend_loop ?_
    rw [Around.under_plainId PySem.F.plain_extend_loop _]
    show wpAny _ A.in1 (pyNext (.ref z) >>= _) _ _ _
    have hend : xs[i]? = none ∨ ys[i]? = none := by
      by_cases h : xs.size ≤ i
      · exact .inl (Array.getElem?_eq_none h)
      · exact .inr (Array.getElem?_eq_none (by omega))
    refine wpAny_bind (zl_done (s := { s with heap := h, toks := tk }) (A := A.in1) hh D hst hend fun h' he => ?_)
    refine wpAny_pure (hR h' tk acc c as (fun b o c0 c1 c2 c3 c4 e => he b o c1 c2 c3 c4 (hkeep b o c0 c1 c2 c3 c4 e)) (he S _ sz sTO s1 s2 hS) (by omega) ⟨hG.rise, hG.above, fun j a hj => ?_⟩ hacc)
    obtain ⟨x, y, ex, ey, e3⟩ := hG.pairs j a hj
    have hb := hG.above a (List.mem_of_getElem? hj)
    exact ⟨x, y, ex, ey, he a _ (Nat.ne_of_gt (Nat.lt_trans O.z hb)) (Nat.ne_of_gt (Nat.lt_trans O.TO hb)) (Nat.ne_of_gt (Nat.lt_trans O.i1 hb)) (Nat.ne_of_gt (Nat.lt_trans O.i2 hb)) e3⟩
  | succ k ih =>
    intro i h tk c acc as hk hi hst hkeep hS hacc hal hG
    have hlt : i < min xs.size ys.size := by omega
    have hsz : acc.size = i := by rw [← Array.length_toList, hacc, List.length_map, hal]
    have ex : xs[i]? = some xs[i] := Array.getElem?_eq_getElem (by omega)
    have ey : ys[i]? = some ys[i] := Array.getElem?_eq_getElem (by omega)
    refine codeAny_builtin PySem.F.entry_extend_loop ?_
    rw [Around.under_plainId PySem.F.plain_extend_loop _]
    show wpAny _ A.in1 (pyNext (.ref z) >>= _) _ _ _
    refine wpAny_bind (zl_item (s := { s with heap := h, toks := tk }) (S := S) D hst (Heap.lt_size hS) ex ey fun h' hst' ht hkp => ?_)
    dsimp only at ht hkp ⊢
    have hS' := hkp S _ sz sTO s1 s2 hS
    have up : ∀ b o, b ≠ S → h'.get? b = some o → (h'.update S (Obj.mapSeq (·.push (Value.ref h.objs.size)))).get? b = some o := fun b o hb e => (Heap.get?_update_other _ _ (Ne.symm hb)).trans e
    have hSl : S < h.objs.size := Heap.lt_size hS
    show wpAny _ A.in1 (updateSeq S (·.push (Value.ref h.objs.size)) >>= _) _ _ _
    refine wpAny_bind ?_
    refine wpAny_updateSeq hS' rfl (wpAny_pure ⟨plainId_quiet PySem.F.plain_extend_loop _, ih (i + 1) _ tk _ (acc.push (Value.ref h.objs.size)) (as ++ [h.objs.size]) (by omega) hlt (hst'.keep O up)
      (fun b o c0 c1 c2 c3 c4 e => up b o c0 (hkp b o c1 c2 c3 c4 (hkeep b o c0 c1 c2 c3 c4 e))) (Heap.get?_update_self _ hS' rfl) (by rw [Array.toList_push, hacc, List.map_append]; rfl) (by rw [List.length_append, hal]; rfl) ⟨?_, ?_, ?_⟩⟩) (by rw [hsz]; omega) (by show (acc.push (Value.ref h.objs.size)).size ≤ sizeLine + 1; rw [Array.size_push, hsz]; omega)
    · refine List.pairwise_append.mpr ⟨hG.rise, List.pairwise_singleton _ _, fun a ha b hb => ?_⟩
      rw [List.mem_singleton.mp hb]
      exact hG.there ha
    · intro a ha
      rcases List.mem_append.mp ha with ha | ha
      · exact hG.above a ha
      · rw [List.mem_singleton.mp ha]; exact hSl
    · intro j b hj
      rcases Nat.lt_trichotomy j as.length with c1 | c1 | c1
      · rw [List.getElem?_append_left c1] at hj
        obtain ⟨x, y, e1, e2, e3⟩ := hG.pairs j b hj
        have hb := hG.above b (List.mem_of_getElem? hj)
        exact ⟨x, y, e1, e2, up b _ (Nat.ne_of_gt hb) (hkp b _ (Nat.ne_of_gt (Nat.lt_trans O.z hb)) (Nat.ne_of_gt (Nat.lt_trans O.TO hb)) (Nat.ne_of_gt (Nat.lt_trans O.i1 hb)) (Nat.ne_of_gt (Nat.lt_trans O.i2 hb)) e3)⟩
      · subst c1
        have hb : h.objs.size = b := by simpa using hj
        subst hb
        subst hal
        exact ⟨_, _, ex, ey, up _ _ (Nat.ne_of_gt hSl) ht⟩
      · have hnone : (as ++ [h.objs.size])[j]? = none := List.getElem?_eq_none (by rw [List.length_append, List.length_singleton]; omega)
        rw [hnone] at hj; cases hj
theorem zl_extend (hh : A.handled = none) (D : ZipApart z TI TO i1 i2 l1 l2) (O : ZlOff z TI TO i1 i2 l1 l2 S) (hn : min xs.size ys.size ≤ sizeLine) (res : Value) (c₀ : Nat)
    (hz : IsZip s.heap z TI TO .none) (hTI : IsPair s.heap TI (.ref i1) (.ref i2)) (hTO : ∃ a b, IsPair s.heap TO a b) (h1 : s.heap.IsListIter i1 l1 0) (h2 : s.heap.IsListIter i2 l2 0) (hl1 : s.heap.IsList l1 xs) (hl2 : s.heap.IsList l2 ys)
    (hS : s.heap.get? S = some { cls := .type "list", data := .seq #[] c₀ }) (hb₁ : ∀ b o, s.heap.get? b = some o → b ≤ S)
    (hR : ∀ h' tk acc c as, (∀ b o, b ≠ S → b ≠ z → b ≠ TO → b ≠ i1 → b ≠ i2 → s.heap.get? b = some o → h'.get? b = some o) → h'.get? S = some { cls := .type "list", dict := none, data := .seq acc c, slots := #[] } → as.length = min xs.size ys.size → ZlG xs ys S h' as →
      acc.toList = as.map Value.ref → R (.ok (.ret res)) { s with heap := h', toks := tk }) :
    wpAny (model prog w) A.in1 (Builtin.List.listExtendWith (.ref S) (.ref z) res)
      (fun fin s' => match fin with | .done f => R (.ok f) s' | .again c' => c'.quiet = true ∧ codeAny (model prog w) A c' R s') (fun e s' => R (.error e) s') s := by
  have sz : S ≠ z := Nat.ne_of_gt O.z
  have key : ∀ (h : Heap) (c₁ tk : Nat), (∀ b o, b ≠ S → s.heap.get? b = some o → h.get? b = some o) → h.get? S = some { cls := .type "list", data := .seq #[] c₁ } →
      codeAny (model prog w) A (.builtin "list.extend.loop" ⟨[.ref S, .ref z, res], []⟩) R { s with heap := h, toks := tk } := by
    intro h c₁ tk hk hS₁
    have st0 : ZlSt s.heap z TI TO i1 i2 l1 l2 S xs ys 0 := ⟨hTI, h1, h2, hl1, hl2, .inl ⟨hz, hTO⟩⟩
    exact zl_loop (s := s) (h₁ := s.heap) hh D O hn res hb₁ hR (min xs.size ys.size) 0 h tk c₁ #[] [] (Nat.sub_zero _) (Nat.zero_le _) (st0.keep O hk) (fun b o c0 _ _ _ _ e => hk b o c0 e) hS₁ rfl rfl
      ⟨List.Pairwise.nil, (fun _ ha => nomatch ha), (fun j a hj => by simp at hj)⟩
  have hT : s.TypeIs (.ref z) "zip" := ⟨_, hz, rfl⟩
  unfold Builtin.List.listExtendWith
  refine wpAny_bind (wpAny_typeOf (T := "zip") hT ?_)
  have h1' : Builtin.List.listSameRef (.ref S) (.ref z) = false := by simp [Builtin.List.listSameRef, sz]
  have h2' : (Value.type "zip" == Value.type "list") = false := by decide
  have h3' : (Value.type "zip" == Value.type "tuple") = false := by decide
  simp only [h1', h2', h3', Bool.or_false, Bool.false_eq_true, if_false]
  refine wpAny_bind (wpAny_pyIter_zip hz ?_)
  refine wpAny_bind (wpAny_holding (zl_hint hT ?_))
  refine wpAny_ite_split (fun _ => ?_) (fun _ => wpAny_pure ⟨plainId_quiet PySem.F.plain_extend_loop _, key _ c₀ _ (fun b o _ e => e) hS⟩)
  refine wpAny_bind (wpAny_rule ?_)
  refine wpAny_bind ?_
  show wpAny _ _ (updateSeq S (·.push .none) >>= fun _ => updateSeq S (·.pop)) _ _ _
  refine wpAny_bind (wpAny_updateSeq hS rfl ?_)
  have hS₂ := Heap.get?_update_self (Obj.mapSeq (·.push Value.none)) hS rfl
  refine wpAny_updateSeq (hz := by seq_fits) hS₂ rfl ?_
  have hS₃ := Heap.get?_update_self (Obj.mapSeq (·.pop)) hS₂ rfl
  refine wpAny_pure ⟨plainId_quiet PySem.F.plain_extend_loop _, key _ _ _ (fun b o hb e => ?_) hS₃⟩
  exact (Heap.get?_update_other _ _ (Ne.symm hb)).trans ((Heap.get?_update_other _ _ (Ne.symm hb)).trans e)
theorem zl_init (hh : A.handled = none) (D : ZipApart z TI TO i1 i2 l1 l2) (O : ZlOff z TI TO i1 i2 l1 l2 S) (hn : min xs.size ys.size ≤ sizeLine)
    (hz : IsZip s.heap z TI TO .none) (hTI : IsPair s.heap TI (.ref i1) (.ref i2)) (hTO : ∃ a b, IsPair s.heap TO a b) (h1 : s.heap.IsListIter i1 l1 0) (h2 : s.heap.IsListIter i2 l2 0) (hl1 : s.heap.IsList l1 xs) (hl2 : s.heap.IsList l2 ys)
    (hS : s.heap.get? S = some { cls := .type "list", data := .seq #[] }) (hb₁ : ∀ b o, s.heap.get? b = some o → b ≤ S)
    (hR : ∀ h' tk acc c as, (∀ b o, b ≠ S → b ≠ z → b ≠ TO → b ≠ i1 → b ≠ i2 → s.heap.get? b = some o → h'.get? b = some o) → h'.get? S = some { cls := .type "list", dict := none, data := .seq acc c, slots := #[] } → as.length = min xs.size ys.size → ZlG xs ys S h' as →
      acc.toList = as.map Value.ref → R (.ok (.ret .none)) { s with heap := h', toks := tk }) :
    wpAny (model prog w) A.in1 (Builtin.«list.__init__» ⟨[.ref S, .ref z], []⟩)
      (fun fin s' => match fin with | .done f => R (.ok f) s' | .again c' => c'.quiet = true ∧ codeAny (model prog w) A c' R s') (fun e s' => R (.error e) s') s := by
  show wpAny _ _ (do let old ← Builtin.List.listItems (.ref S); Builtin.List.listUpdate (.ref S) (fun _ => #[]); letGo old.toList.reverse; Builtin.List.listExtendWith (.ref S) (.ref z) .none) _ _ s
  refine wpAny_bind ?_
  unfold Builtin.List.listItems
  refine wpAny_bind (wpAny_seqItems hS rfl (wpAny_pure ?_))
  show wpAny _ _ (updateSeq S (fun _ => #[]) >>= fun _ => letGo (#[] : Array Value).toList.reverse >>= fun _ => Builtin.List.listExtendWith (.ref S) (.ref z) .none) _ _ s
  refine wpAny_bind (wpAny_updateSeq hS rfl ?_)
  have hS₂ := Heap.get?_update_self (Obj.mapSeq (fun _ => (#[] : Array Value))) hS rfl
  have oth : ∀ b o, b ≠ S → s.heap.get? b = some o → (s.heap.update S (Obj.mapSeq (fun _ => (#[] : Array Value)))).get? b = some o :=
    fun b o hb e => (Heap.get?_update_other _ _ (Ne.symm hb)).trans e
  refine wpAny_bind (wpAny_letGo ?_)
  obtain ⟨a, b, hTO⟩ := hTO
  refine zl_extend (xs := xs) (ys := ys) hh D O hn .none _ (oth _ _ (Nat.ne_of_lt O.z) hz) (oth _ _ (Nat.ne_of_lt O.TI) hTI) ⟨a, b, oth _ _ (Nat.ne_of_lt O.TO) hTO⟩ (h1.at fun o e => oth _ o (Nat.ne_of_lt O.i1) e) (h2.at fun o e => oth _ o (Nat.ne_of_lt O.i2) e)
    (hl1.at fun o e => oth _ o (Nat.ne_of_lt O.l1) e) (hl2.at fun o e => oth _ o (Nat.ne_of_lt O.l2) e) hS₂ (fun b o e => ?_) fun h' tk acc c as hk hS' hl hG hacc => hR h' tk acc c as (fun b o c0 c1 c2 c3 c4 e => hk b o c0 c1 c2 c3 c4 (oth b o c0 e)) hS' hl hG hacc
  by_cases c : b = S
  · exact Nat.le_of_eq c
  · exact hb₁ b o ((Heap.get?_update_other _ _ (Ne.symm c)).symm.trans e)
end
section
variable {prog : Program} {w : World} {A : Around} {E : Value → Shared → Prop} {s : Shared} {xs ys : Array Value} {z TI TO i1 i2 l1 l2 : Addr}
theorem zl_call {Q : Value → Shared → Prop} (hh : A.handled = none) (D : ZipApart z TI TO i1 i2 l1 l2) (hn : min xs.size ys.size ≤ sizeLine)
    (hz : IsZip s.heap z TI TO .none) (hTI : IsPair s.heap TI (.ref i1) (.ref i2)) (hTO : ∃ a b, IsPair s.heap TO a b) (h1 : s.heap.IsListIter i1 l1 0) (h2 : s.heap.IsListIter i2 l2 0) (hl1 : s.heap.IsList l1 xs) (hl2 : s.heap.IsList l2 ys)
    (hQ : ∀ h' tk acc c as, (∀ b o, b ≠ z → b ≠ TO → b ≠ i1 → b ≠ i2 → s.heap.get? b = some o → h'.get? b = some o) → h'.get? s.heap.objs.size = some { cls := .type "list", dict := none, data := .seq acc c, slots := #[] } → as.length = min xs.size ys.size → ZlG xs ys s.heap.objs.size h' as →
      acc.toList = as.map Value.ref → Q (.ref s.heap.objs.size) { s with heap := h', toks := tk }) :
    wpAny (model prog w) A (call (.type "list") [.ref z]) Q E s := by
  refine callType_codes (Q₁ := fun obj s₁ => obj = .ref s.heap.objs.size ∧ s₁ = { s with heap := s.heap.push { cls := .type "list", data := .seq #[] } }) PySem.F.called_list (PySem.F.typeCall_list_1 _) PySem.F.entry_list_init
    (code_list_new _ ⟨rfl, rfl⟩) fun obj s₁ e₁ => ?_
  obtain ⟨rfl, rfl⟩ := e₁
  have hS : (s.heap.push { cls := .type "list", data := .seq #[] }).get? s.heap.objs.size = some { cls := .type "list", data := .seq #[] } := Heap.get?_push_size _ rfl
  have up : ∀ b o, s.heap.get? b = some o → (s.heap.push { cls := .type "list", data := .seq #[] }).get? b = some o := fun b o e => Heap.get?_push_of_some _ e
  have O : ZlOff z TI TO i1 i2 l1 l2 s.heap.objs.size := by
    obtain ⟨a, b, hTO⟩ := hTO
    obtain ⟨o1, e1, _⟩ := h1
    obtain ⟨o2, e2, _⟩ := h2
    obtain ⟨o3, e3, _⟩ := hl1
    obtain ⟨o4, e4, _⟩ := hl2
    exact ⟨Heap.lt_size hz, Heap.lt_size hTI, Heap.lt_size hTO, Heap.lt_size e1, Heap.lt_size e2, Heap.lt_size e3, Heap.lt_size e4⟩
  refine ⟨⟨_, hS, rfl⟩, PySem.F.args_list_init_2 _ _, zl_init (xs := xs) (ys := ys) (A := A.in1) hh D O hn (up _ _ hz) (up _ _ hTI) (let ⟨a, b, e⟩ := hTO; ⟨a, b, up _ _ e⟩) (h1.at fun o e => up _ o e) (h2.at fun o e => up _ o e) (hl1.at fun o e => up _ o e) (hl2.at fun o e => up _ o e) hS
    (fun b o e => Nat.le_of_lt_succ (Nat.lt_of_lt_of_eq (Heap.lt_size e) (Heap.size_push ..))) fun h' tk acc c as hk hS' hl hG hacc => ?_⟩
  exact ⟨rfl, hQ h' tk acc c as (fun b o c1 c2 c3 c4 e => hk b o (Nat.ne_of_lt (Heap.lt_size e)) c1 c2 c3 c4 (up b o e)) hS' hl hG hacc⟩
end
end Hz
namespace Hz
open PySem PySem.Spec PyProof.Rows L2 RZ
/-- the pairs tracked at their addresses -/
def putZ : Hp → List Addr → List (V × V) → Hp
  | H, a :: as, p :: r => putZ (upd H a (.tup [p.1, p.2])) as r
  | H, _, _ => H
theorem putZ_off {b : Addr} : ∀ (as : List Addr) (r : List (V × V)) (H : Hp), b ∉ as → putZ H as r b = H b
  | [], _, _, _ => rfl
  | _ :: _, [], _, _ => rfl
  | a :: as, p :: r, H, h => by
    show putZ (upd H a (.tup [p.1, p.2])) as r b = H b
    rw [putZ_off as r _ (fun z => h (List.mem_cons_of_mem _ z)), upd_ne (fun z => h (by rw [z]; exact List.mem_cons_self))]
theorem putZ_at : ∀ (as : List Addr) (r : List (V × V)) (H : Hp), as.length = r.length → as.Nodup → Paired (fun (t : Addr) (p : V × V) => putZ H as r t = some (.tup [p.1, p.2])) as r
  | [], [], _, _, _ => .nil
  | [], _ :: _, _, h, _ => by cases h
  | _ :: _, [], _, h, _ => by cases h
  | a :: as, p :: r, H, h, hn => by
    have hn' := List.nodup_cons.mp hn
    have ih := putZ_at as r (upd H a (.tup [p.1, p.2])) (Nat.succ.inj h) hn'.2
    refine .cons ?_ ih
    show putZ (upd H a (.tup [p.1, p.2])) as r a = some (.tup [p.1, p.2])
    rw [putZ_off as r _ hn'.1, upd_same]
def rZipL (K : PySem.W.Frag) : List V → Hp → VK → Prop := fun vs H Q => ∃ (a b : Addr) (xs ys : List V), vs = [.ref a, .ref b] ∧ SqL K H a xs ∧ SqL K H b ys ∧
  ∀ (H' : Hp) (p : Addr) (ts : List Addr), (∀ b o, H b = some o → H' b = some o) → H p = none → (∀ t ∈ ts, H t = none) → p ∉ ts → ts.Nodup → H' p = some (.lst (ts.map V.ref)) → Paired (fun (t : Addr) (q : V × V) => H' t = some (.tup [q.1, q.2])) ts (xs.zip ys) → (∀ b, b ∉ ts → b ≠ p → H' b = H b) → Q (.ref p) H'
def tZipL (K : PySem.W.Frag) (ta : TA) : TE := fun σ H Q => ta σ H fun vs H1 => rZipL K vs H1 Q
section
variable {X : Cx} {e1 e2 : Expr} {ta : TA} {p p2 cpos pos : Pos}
theorem zip_laid {pins : List (Addr × Obj)} {σ : L2.St} {H : Hp} {s : Shared} {h' : Heap} {tk : Nat} {us vs : List V} {xs ys : List Value} {acc : Array Value} {c : Nat} {as : List Addr} {S : Addr} (I : Inv X pins σ H s) (hle : s.heap.objs.size ≤ S) (hz : min xs.length ys.length ≤ sizeLine) (r1 : Vals us xs) (r2 : Vals vs ys)
    (hk : ∀ b o, s.heap.get? b = some o → h'.get? b = some o) (hS : h'.get? S = some { cls := .type "list", dict := none, data := .seq acc c, slots := #[] }) (hl : as.length = min xs.length ys.length) (hG : ZlG xs.toArray ys.toArray S h' as) (hacc : acc.toList = as.map Value.ref) :
    ∃ H' : Hp, (∀ b o, H b = some o → H' b = some o) ∧ H S = none ∧ (∀ t ∈ as, H t = none) ∧ S ∉ as ∧ as.Nodup ∧ H' S = some (.lst (as.map V.ref)) ∧ Paired (fun (t : Addr) (q : V × V) => H' t = some (.tup [q.1, q.2])) as (us.zip vs) ∧ (∀ b, b ∉ as → b ≠ S → H' b = H b) ∧ Inv X pins σ H' { s with heap := h', toks := tk } := by
  have l1 := r1.length
  have l2 := r2.length
  have hSn : S ∉ as := fun z => Nat.lt_irrefl _ (hG.above _ z)
  have nd : as.Nodup := List.Pairwise.imp (fun {a b} (h : a < b) => Nat.ne_of_lt h) hG.rise
  have new : ∀ t ∈ as, H t = none := fun t ht => I.hok.fresh (Nat.le_trans hle (Nat.le_of_lt (hG.above t ht)))
  have newS : H S = none := I.hok.fresh hle
  have atP := putZ_at as (us.zip vs) (upd H S (.lst (as.map V.ref))) (by rw [List.length_zip]; omega) nd
  have off : ∀ b, b ∉ as → b ≠ S → putZ (upd H S (.lst (as.map V.ref))) as (us.zip vs) b = H b := fun b h1 h2 => by rw [putZ_off as _ _ h1, upd_ne h2]
  have low : ∀ b o, s.heap.get? b = some o → b ∉ as ∧ b ≠ S := fun b o e => ⟨fun z => absurd (Heap.lt_size e) (Nat.not_lt.mpr (Nat.le_trans hle (Nat.le_of_lt (hG.above b z)))), Nat.ne_of_lt (Nat.lt_of_lt_of_le (Heap.lt_size e) hle)⟩
  have kp : ∀ b u, H b = some u → (putZ (upd H S (.lst (as.map V.ref))) as (us.zip vs)) b = some u := fun b u e => by
    rw [off b (fun z => by rw [new b z] at e; cases e) (fun z => by rw [z, newS] at e; cases e)]
    exact e
  have eS : putZ (upd H S (.lst (as.map V.ref))) as (us.zip vs) S = some (.lst (as.map V.ref)) := by rw [putZ_off as _ _ hSn, upd_same]
  refine ⟨putZ (upd H S (.lst (as.map V.ref))) as (us.zip vs), kp, newS, new, hSn, nd, eS, atP, off, ?_⟩
  refine I.call' (ch := []) rfl ⟨fun b o q _ _ _ => hk b o q, fun b o q _ _ _ => ⟨o.slots, hk b o q⟩, fun b o q n _ => ?_, fun b o q _ => ⟨o, hk b o q⟩, fun b xs q => kp b _ q, fun b o u q => kp b _ q, fun b ps q => ⟨#[], by rw [kp b _ q]; simp⟩⟩ (fun b u q => ?_) I.bare fun b z => by simp at z
  · obtain ⟨z1, z2⟩ := low b o q
    rw [off b z1 z2]
    exact n
  · by_cases hb : b ∈ as
    · obtain ⟨j, pk, e1, e2, e3⟩ := LiI.paired_ix atP hb
      rw [e3] at q
      cases q
      obtain ⟨x, y, f1, f2, f3⟩ := hG.pairs j b e1
      obtain ⟨g1, g2⟩ := List.getElem?_zip_eq_some.mp e2
      obtain ⟨u1, k1, m1⟩ := r1.get g1
      obtain ⟨u2, k2, m2⟩ := r2.get g2
      rw [List.getElem?_toArray, k1] at f1
      rw [List.getElem?_toArray, k2] at f2
      cases f1
      cases f2
      exact ⟨by show 2 ≤ sizeLine; decide, [x, y], .cons m1 (.cons m2 .nil), ⟨_, f3, rfl, _, rfl⟩⟩
    · by_cases hb2 : b = S
      · rw [hb2] at q ⊢
        rw [eS] at q
        cases q
        refine ⟨by rw [List.length_map]; omega, acc.toList, c, by rw [hacc]; exact LiI.vals_refs as, ?_⟩
        rw [Array.toArray_toList]
        exact hS
      · rw [off b hb hb2] at q
        exact (I.hok b u q).stay (fun d v _ y => hk d v y) (fun d y => kp d _ y) fun d xs y => kp d _ y
/-- list(zip(e1, e2)) -/
theorem pe_zipL (hc : X.calm = true) (ha : PA X [e1, e2] ta) (hg : Gl X "list") (hm : X.mg "list" = none) (hv : bootBuiltins "list" = some (.type "list")) (hg2 : Gl X "zip") (hm2 : X.mg "zip" = none)
    (hs : starEach [.Call (.Name "zip" p2) [e1, e2] [] cpos] X.env = (false, eval (.Call (.Name "zip" p2) [e1, e2] [] cpos) X.env) :: starEach [] X.env := by rfl)
    (hs2 : starEach [e1, e2] X.env = (false, eval e1 X.env) :: starEach [e2] X.env := by rfl) (hpl : (backTo cpos (starEach [e2] X.env)).any (·.1) = false := by rfl) :
    PE X (.Call (.Name "list" p) [.Call (.Name "zip" p2) [e1, e2] [] cpos] [] pos) (tZipL X.K ta) := by
  refine ⟨fun pins s σ H Q I hq => ?_⟩
  refine wpAny_Call_Name_kw (ld_blt I hg hm hv ?_)
  refine PyProof.Rows.callWith_type1 ?_ hs rfl
  rw [hs]
  show wpAny _ _ (spliced ((false, eval (.Call (.Name "zip" p2) [e1, e2] [] cpos) X.env) :: backTo pos (starEach [] X.env))) _ _ s
  refine Calls.spliced_cons ?_
  refine Call_ (ld_blt I hg2 hm2 PyProof.Rows.boot_zip (PyProof.Rows.callWith_type1 (thn (ha.run cpos pins s σ H _ I hq) fun us s1 ⟨vs, H1, I1, r1, q1⟩ => ?_) hs2 hpl))
  obtain ⟨a, b, xs, ys, ex, hqx, hqy, q⟩ := q1
  subst ex
  cases r1 with
  | cons r rr =>
    cases rr with
    | cons r' rr =>
      cases rr
      cases r
      cases r'
      obtain ⟨its, rv, p1, z1⟩ := I1.list hqx
      obtain ⟨its2, rv2, p2, z2⟩ := I1.list hqy
      have la : a < s1.heap.objs.size := p1.lt
      have lb : b < s1.heap.objs.size := p2.lt
      have n1 := rv.length
      have n2 := rv2.length
      refine call_zip_2 p1.isList p2.isList fun h' hz hTI hTO h1 h2 hsz hk => ?_
      refine Calls.spliced_nil ?_
      have hn : min its.toArray.size its2.toArray.size ≤ sizeLine := by rw [List.size_toArray, List.size_toArray]; omega
      refine zl_call (s := { s1 with heap := h' }) (I1.ok.hd hc) (PySem.W.ktu_apart s1.heap.objs.size a b la lb) hn hz hTI ⟨_, _, hTO⟩ h1 h2 (p1.isList.at fun o e => hk _ o e) (p2.isList.at fun o e => hk _ o e) fun h'' tk acc c as hk2 hS hl hG hacc => ?_
      have keep : ∀ b o, s1.heap.get? b = some o → h''.get? b = some o := fun b o e => by
        have hb : b < s1.heap.objs.size := Heap.lt_size e
        exact hk2 b o (Nat.ne_of_lt (Nat.lt_of_lt_of_le hb (Nat.le_add_right _ _))) (Nat.ne_of_lt (Nat.lt_of_lt_of_le hb (Nat.le_add_right _ _))) (Nat.ne_of_lt hb) (Nat.ne_of_lt (Nat.lt_of_lt_of_le hb (Nat.le_add_right _ _))) (hk b o e)
      obtain ⟨H', k1, k2, k3, k4, k5, k6, k7, k8, J⟩ := zip_laid (tk := tk) I1 (S := h'.objs.size) (by rw [hsz]; exact Nat.le_add_right _ _) (by rw [List.size_toArray, List.size_toArray] at hn; exact hn) rv rv2 keep hS (by rw [List.size_toArray, List.size_toArray] at hl; exact hl) hG hacc
      exact ⟨.ref _, H', J, rfl, q H' _ as k1 k2 k3 k4 k5 k6 k7 k8⟩
end
section
variable {L R R' : Lg} {σ : SS} {Q : VK} {K : PySem.W.Frag} {a b : Addr} {xs ys : List V}
/-- the new pairs in the ledger -/
def zipN (ts : List Addr) (qs : List (V × V)) : Lg := List.zipWith (fun t q => (t, HO.tup [q.1, q.2])) ts qs
theorem zipN_mem : ∀ {ts : List Addr} {qs : List (V × V)} {H : Hp}, Paired (fun (t : Addr) (q : V × V) => H t = some (.tup [q.1, q.2])) ts qs → ∀ x ∈ zipN ts qs, H x.1 = some x.2
  | _, _, _, .nil, x, h => nomatch h
  | _, _, _, .cons r t, x, h => by
    rcases List.mem_cons.mp h with rfl | h
    · exact r
    · exact zipN_mem t x h
theorem zipN_fst : ∀ (ts : List Addr) (qs : List (V × V)), ts.length = qs.length → (zipN ts qs).map (·.1) = ts
  | [], [], _ => rfl
  | [], _ :: _, h => by cases h
  | _ :: _, [], h => by cases h
  | t :: ts, q :: qs, h => by
    show t :: (zipN ts qs).map (·.1) = _
    rw [zipN_fst ts qs (Nat.succ.inj h)]
theorem t_zipL (hp : Pick a (.lst xs) L R) (hq : Pick b (.lst ys) L R') (k : ∀ (p : Addr) (ts : List Addr), ts.length = (xs.zip ys).length → Tr ((p, .lst (ts.map V.ref)) :: (zipN ts (xs.zip ys) ++ L)) fun H => Q (.ref p) H) :
    Tr L fun H => rZipL K [.ref a, .ref b] H Q := fun H l => ⟨a, b, xs, ys, rfl, sqL hp l, sqL hq l, fun H' p ts k1 k2 k3 k4 k5 k6 k7 k8 => by
  have hl := k7.length
  refine k p ts hl H' ⟨fun x hx => ?_, ?_⟩
  · rcases List.mem_cons.mp hx with rfl | hx
    · exact k6
    · rcases List.mem_append.mp hx with hx | hx
      · exact zipN_mem k7 x hx
      · exact k1 _ _ (l.has x hx)
  · have off : ∀ c, H c = none → c ∉ L.map (·.1) := fun c e hc => by
      obtain ⟨x, hx, rfl⟩ := List.mem_map.mp hc
      rw [l.has x hx] at e
      cases e
    show (p :: (zipN ts (xs.zip ys) ++ L).map (·.1)).Nodup
    rw [List.map_append, zipN_fst _ _ hl]
    refine List.nodup_cons.mpr ⟨fun h => ?_, List.nodup_append.mpr ⟨k5, l.nd, fun c hc d hd e => ?_⟩⟩
    · rcases List.mem_append.mp h with h | h
      · exact k4 h
      · exact off p k2 h
    · subst e
      exact off c (k3 c hc) hd⟩
theorem zipN_prs : ∀ (ts : List Addr) (ns ms : List Int) (N : Lg), ts.length = (ns.zip ms).length → (∀ x ∈ zipN ts ((ns.map V.int).zip (ms.map V.int)), x ∈ N) → Prs N (ts.map V.ref) (ns.zip ms)
  | [], [], _, N, _, _ => DtAll.nil
  | [], _ :: _, [], N, _, _ => DtAll.nil
  | [], _ :: _, _ :: _, N, h, _ => by cases h
  | _ :: _, [], _, N, h, _ => by cases h
  | _ :: _, _ :: _, [], N, h, _ => by cases h
  | t :: ts, n :: ns, m :: ms, N, h, s =>
    DtAll.cons (Dt.tup (s _ (.head _)) (.cons (.int n) (.cons (.int m) .nil))) (zipN_prs ts ns ms N (Nat.succ.inj h) fun x hx => s x (.tail _ hx))
/-- list(zip(ns, ms)) -/
theorem t_zipI {ns ms : List Int} (hp : Pick a (.lst (ns.map V.int)) L R) (hq : Pick b (.lst (ms.map V.int)) L R') (k : ∀ (p : Addr) (us : List V) (N : Lg), Prs N us (ns.zip ms) → Tr ((p, .lst us) :: (N ++ L)) fun H => Q (.ref p) H) :
    Tr L fun H => rZipL K [.ref a, .ref b] H Q := t_zipL hp hq fun p ts h => k p _ _ (zipN_prs ts ns ms _ (by rw [h, List.length_zip, List.length_zip, List.length_map, List.length_map]) fun _ hx => hx)
theorem t_tZipL {ta : TA} (k : Tr L fun H => ta σ H fun vs H1 => rZipL K vs H1 Q) : Tr L fun H => tZipL K ta σ H Q := k
end
end Hz

/-! Hz, part X: defs that raise, classes of errors without an own __init__, try .. except. -/
namespace Hz
open PySem PySem.Spec PyProof.Rows L2 RZ
/-- a class of errors at C, without an own __init__ -/
structure ExcC (K : PySem.W.Frag) (mg : Str → Option Value) (x : Str) (C : Addr) : Prop where
  g : mg x = some (.ref C)
  k : PySem.W.keepIn K (.ref C) = true
  e : PySem.W.excIn K C [.type "ValueError", .type "Exception", .type "BaseException", .type "object"] "ValueError.__new__" = true
  r : PySem.W.subIn K (.ref C) (.type "BaseException") = some true
  t : PySem.W.typeIn K (.ref C) = some (.type "type")
  te : PySem.W.exmOne K (.ref C) (.ref C) = some true
theorem exm_own {K : PySem.W.Frag} {S C : Addr} {b : Bool} (h1 : PySem.W.subIn K (.ref C) (.type "BaseException") = some true) (h2 : PySem.W.isClsIn K C = true) (h3 : PySem.W.typeIn K (.ref C) = some (.type "type")) (h4 : PySem.W.subIn K (.ref S) (.ref C) = some b) :
    PySem.W.exmOne K (.ref S) (.ref C) = some b := by
  have e1 : (PySem.W.subIn K (.ref C) (.type "BaseException") == some true) = true := by rw [h1] <;> rfl
  have e2 : ((PySem.W.clsIn K C).isSome && PySem.W.typeIn K (.ref C) == some (.type "type")) = true := by
    have h2' : (PySem.W.clsIn K C).isSome = true := h2
    rw [h2', h3] <;> rfl
  show (if (PySem.W.subIn K (.ref C) (.type "BaseException") == some true) = true then (if ((PySem.W.clsIn K C).isSome && PySem.W.typeIn K (.ref C) == some (.type "type")) = true then PySem.W.subIn K (.ref S) (.ref C) else none) else none) = some b
  rw [if_pos e1, if_pos e2]
  exact h4
section
variable {K : PySem.W.Frag} {mg : Str → Option Value} {h : Heap}
theorem exc_mk (X : K.In h) (G : h.Ns mainGlobals mg) {x : Str} {C : Addr} (a : PySem.W.nsIn K mainGlobals x = some (some (.ref C))) (k : PySem.W.keepIn K (.ref C) = true)
    (e : PySem.W.excIn K C [.type "ValueError", .type "Exception", .type "BaseException", .type "object"] "ValueError.__new__" = true) (r : PySem.W.subIn K (.ref C) (.type "BaseException") = some true)
    (t : PySem.W.typeIn K (.ref C) = some (.type "type")) (i : PySem.W.isClsIn K C = true) (s : PySem.W.subIn K (.ref C) (.ref C) = some true) : ∃ C, ExcC K mg x C :=
  ⟨C, PySem.W.mg_of X G a, k, e, r, t, exm_own r i t s⟩
end
/-- nothing is let out: the call is one that does not raise -/
theorem pasX0 {X : Cx} (σ : L2.St) : PassesAt (L2N.CX X.prog X.w) X σ (fun _ _ _ => False) := fun _ _ _ _ _ _ h => by
  obtain ⟨_, _, _, _, _, _, _, _, _, _, _, _, z⟩ := h
  exact z.elim
/-- raise C('..') -/
theorem pe_mk {X : Cx} {x m : Str} {C : Addr} {j : Nat} {p p2 pos : Pos} (T : ExcC X.K X.mg x C) (hg : Gl X x := by rfl) (hdb : (x == ("__debug__" : Str)) = false := by decide) : L2N.PMk X (.Call (.Name x p) [.Constant (.str m) j p2] [] pos) (fun _ H Q => Q (.ref C) none H) :=
  L2N.pmk_own PySem.F.excBase_ValueError T.e T.g T.k (raises_own T.r T.t) hg hdb
section
variable {K : PySem.W.Frag} {L : Lg} {σ : SS} {D : Ends} {c cls : Value} {d : Option Addr} {ts : Addr → Value → Option Addr → TS} {Wout : WX}
/-- the clause's own class -/
theorem t_only (b : PySem.W.exmOne K cls c = some true) (k : ∀ a, Tr L fun H => ts a cls d D σ H) : Tr L fun H => wOnly K c ts Wout D cls d σ H :=
  fun H l => ⟨true, b, fun _ a _ => k a H l, fun e => nomatch e⟩
end
end Hz

/-! Hz, part Y: errors as values: except .. as e, what e is an instance of, its fields, classes with an own __init__. -/
namespace Hz
open PySem PySem.Spec PyProof.Rows L2 RZ
/-! ### a caught error as a thing of the ledger -/
/-- at a: an error of the class at C, its dict d -/
def exF (a C : Addr) (d : Option Addr) : HO := .ext fun h => ∃ oe vs, h.get? a = some oe ∧ oe.cls = .ref C ∧ oe.dict = d ∧ oe.data = .fields vs ∧ vs[2]? = some .none
section
variable {P : Program} {w : World} {H : Hp} {h : Heap} {a C : Addr} {d : Option Addr}
theorem exF_ok {oe : Obj} {vs : Array Value} (e : h.get? a = some oe) (c : oe.cls = .ref C) (dd : oe.dict = d) (f : oe.data = .fields vs) (n2 : vs[2]? = some .none) : ObjOk P w H h a (exF a C d) :=
  ⟨⟨oe, vs, e, c, dd, f, n2⟩, ⟨_, e⟩, fun h1 h2 z k => by
    obtain ⟨oe, vs, e, c, dd, f, n2⟩ := z
    exact ⟨oe, vs, k _ e, c, dd, f, n2⟩⟩
theorem exF_at (hok : HOk P w H h) (e : H a = some (exF a C d)) : ∃ oe vs, h.get? a = some oe ∧ oe.cls = .ref C ∧ oe.dict = d ∧ oe.data = .fields vs ∧ vs[2]? = some .none := by
  have x : ObjOk P w H h a (.ext fun h => ∃ oe vs, h.get? a = some oe ∧ oe.cls = .ref C ∧ oe.dict = d ∧ oe.data = .fields vs ∧ vs[2]? = some .none) := hok a _ e
  exact x.1
end
section
variable {X : Cx} {pins : List (Addr × Obj)} {σ : L2.St} {H : Hp} {sI s4 : Shared} {a C : Addr} {d : Option Addr}
/-- a new error is taken into the abstract heap -/
theorem inv_give {oe : Obj} {vs : Array Value} (J : Inv X pins σ H sI) (J4 : Inv X pins σ H s4) (hn : sI.heap.get? a = none) (he : s4.heap.get? a = some oe) (hc : oe.cls = .ref C) (hdd : oe.dict = d)
    (hd : oe.data = .fields vs) (n2 : vs[2]? = some .none) (na : H a = none) : Inv (X.suite a (X.pn ++ pins)) [] σ (upd H a (exF a C d)) s4 := by
  have ne : ∀ b u, sI.heap.get? b = some u → b ≠ a := fun b u e z => by rw [z, hn] at e; cases e
  have nn : ∀ b o, H b = some o → b ≠ a := fun b o e z => by rw [z, na] at e; cases e
  have nL : X.env.locals ≠ a := by
    obtain ⟨m, ⟨o, _, _, ho, _⟩, _⟩ := J.loc
    exact ne _ _ ho
  refine ⟨J.ok.suite _ _, J4.os, J4.bare, ⟨J4.base.keep, J4.base.slot, fun b o e n hx => ?_, J4.base.there, fun b xs e => ?_, fun b o u e => ?_, fun b ps e => ?_⟩, J4.loc, J4.cell, ?_, fun x c e => ?_, fun p hp => ?_, fun b o e => ?_, J4.len⟩
  · obtain ⟨o', e'⟩ := J.base.there b o e hx
    rw [upd_ne (ne _ _ e')]
    exact J4.base.free b o e n hx
  · have z := J4.base.tups b xs e
    rw [upd_ne (nn _ _ z)]
    exact z
  · have z := J4.base.frzs b o u e
    rw [upd_ne (nn _ _ z)]
    exact z
  · obtain ⟨more, z⟩ := J4.base.tbls b ps e
    exact ⟨more, by rw [upd_ne (nn _ _ z)]; exact z⟩
  · show upd H a (exF a C d) X.env.locals = none
    rw [upd_ne nL]
    exact J4.free
  · obtain ⟨v, o, z, _⟩ := J.cell x c e
    rw [upd_ne (ne _ _ z)]
    exact J4.freeC x c e
  · have hp' : p ∈ X.pn ++ pins := by rw [List.append_nil] at hp; exact hp
    obtain ⟨e, n, nl, nf, nc⟩ := J4.pin p hp'
    exact ⟨e, by rw [upd_ne (ne _ _ (J.pin p hp').1)]; exact n, nl, nf, nc⟩
  · by_cases hb : b = a
    · subst hb
      rw [upd_same] at e
      cases e
      exact exF_ok he hc hdd hd n2
    · rw [upd_ne hb] at e
      exact (J4.hok b o e).stay (fun _ _ _ q => q) (fun c q => by rw [upd_ne (nn _ _ q)]; exact q) fun c xs q => by rw [upd_ne (nn _ _ q)]; exact q
theorem inv_unsuite {pn' : List (Addr × Obj)} (I : Inv (X.suite a (X.pn ++ pins)) pn' σ H s4) (ok : X.Ok) : Inv X pins σ H s4 :=
  ⟨ok, I.os, I.bare, I.base, I.loc, I.cell, I.free, I.freeC, fun p hp => I.pin p (List.mem_append_left _ hp), I.hok, I.len⟩
end
/-- where the suite's ways go: the clause's name is gone -/
def Ends.gone (D : Ends) (i : Nat) : Ends := { nx := fun σ H => D.nx (σ.set i none) H, rt := D.rt, bk := fun σ H => D.bk (σ.set i none) H, ct := fun σ H => D.ct (σ.set i none) H }
/-- what 'except c as n' (n in slot i) wishes of an error of the body: the clause takes it -/
def wCat (K : PySem.W.Frag) (c : Value) (i : Nat) (ts : Addr → TS) (D : Ends) : WX := fun cls d σ H =>
  ∃ C, cls = .ref C ∧ PySem.W.exmOne K cls c = some true ∧ ∀ a, H a = none → ts a (Ends.gone D i) (σ.set i (some (.ref a))) (upd H a (exF a C d))
section
variable {X : Cx} {x n : Str} {c : Value} {i : Nat} {body suite : List Stmt} {b₀ : Stmt} {np pos pos' : Pos} {tb : WX → TS} {ts : Addr → TS}
theorem ps_try_cat (hs : X.stack = X.env :: X.outer) (hf : X.env.frame = some X.env.locals) (hN : X.N.Nodup) (hi : X.N[i]? = some n) (hln : X.env.kindOf n = some .local) (hc : Names X x c)
    (hb : ∀ (W : WX) (pn : List (Addr × Obj)) (xe : Value → Shared → Prop), L2N.Takes (X.tr pn xe) W → PassesOwn (model X.prog X.w) X.A X.env xe → PSs (X.tr pn xe) body (tb W))
    (hsu : ∀ (a : Addr) (pn : List (Addr × Obj)), PSs (X.suite a pn) (b₀ :: suite) (ts a)) :
    PS X (.Try body [.ExceptHandler (some (.Name x np)) (some n) (b₀ :: suite) pos'] [] [] pos) (fun D σ H => tb (wCat X.K c i ts D) D σ H) := by
  refine ⟨fun pins s σ H D I h => ?_⟩
  have ok := I.ok
  have hfr : X.A.frames = some (X.env :: X.outer) := by rw [ok.frames, hs]
  have hloc : Loc X.env.scope n := .inl hln
  refine wpAny_Try_except (wpAny_mono ((hb (wCat X.K c i ts D) (X.pn ++ pins) (fun e s1 => wpAny (model X.prog X.w) X.A (noteFrame e X.env) (fun _ s2 => wpAny (model X.prog X.w) X.A (setFlight e none) (fun _ s3 =>
    wpAny (model X.prog X.w) X.A (handleBy e X.env [.ExceptHandler (some (.Name x np)) (some n) (b₀ :: suite) pos']) (SP X pins D) X.xe s3) X.xe s2) X.xe s1) (fun u s' xx => ?_) PassesOwn.looking).run [] s σ H D (I.toTry _) h)
      (fun f s1 hsp => ?_) fun _ _ z => z)
  · obtain ⟨a, B, sI, pins', σ', H', cls, d, rfl, J', nb, up, sky, na, os, ag, C, rfl, hm, hts⟩ := xx
    have J : Inv X pins σ' H' sI := J'.ofTry ok
    have sky' : Sky B (X.env :: X.outer) a (L2N.Zn (.ref C) d) X.env.locals s'.heap := by rw [← hs]; exact sky
    show wpAny _ X.A (noteFrame (.ref a) X.env) _ _ _
    refine L2N.Sky.land L2N.Zn.steady hfr hf sky' fun h3 fl3 up3 => ?_
    have J3 : Inv X pins σ' H' { s' with heap := h3 } := J.landed nb fl3.1 (up.trans up3) os ag
    obtain ⟨oe3, vs3, he3, hz3, hd3⟩ := fl3.there
    have n3 := hz3.2.2 _ hd3
    have nfr : a ∉ frs (X.env :: X.outer) := fun hm => by
      obtain ⟨_, o', e', hnf⟩ := fl3.2.2.1.mem hm
      rw [he3] at e'
      cases e'
      exact hnf _ hd3
    have hn : sI.heap.get? a = none := by
      cases e : sI.heap.get? a with
      | none => rfl
      | some o =>
        have z := nb a o e (by rw [hs]; exact nfr)
        rw [fl3.2.1] at z
        cases z
    have S3 := inv_give J J3 hn he3 hz3.1 hz3.2.1 hd3 n3 na
    refine wpAny_handleBy_cons (codeAny_handlers_test ?_) (by intro q; cases q)
    have LT : PySem.W.Looks (model X.prog X.w) h3 (typeOf (.ref a)) (.ref C) := fun A Q E s k q => wpAny_typeOf_ref (k _ _ he3) (by rw [hz3.1]; exact q)
    have LM := PySem.W.exm_one (M := model X.prog X.w) J3.kIn LT hm
    have test : ∀ {Q : Value → Shared → Prop} {E : Value → Shared → Prop}, Q c { s' with heap := h3 } → wpAny (model X.prog X.w) (X.A.mark (some (.ref a))) (eval (.Name x np) X.env) Q E { s' with heap := h3 } := fun {Q E} q => by
      obtain ⟨hg, hdbg, hm | ⟨hm, hv, hnn⟩⟩ := hc
      · exact ld_glob (X := X.suite a (X.pn ++ pins)) S3 hg hm q hdbg
      · exact ld_blt (X := X.suite a (X.pn ++ pins)) S3 hg hm hv q hnn hdbg
    refine test (LM.here (codeAny_handlers_suite_as (HandSPX.lands_againZ fl3 fun h4 fl4 up4 => ?_)))
    have J4 : Inv X pins σ' H' { s' with heap := h4 } := J.landed nb fl4.1 ((up.trans up3).trans up4) os ag
    obtain ⟨oe4, vs4, he4, hz4, hd4⟩ := fl4.there
    refine store_ok (X := X.suite a (X.pn ++ pins)) (v := .ref a) (inv_give J J4 hn he4 hz4.1 hz4.2.1 hd4 (hz4.2.2 _ hd4) na) hN hi hloc rfl (fun s5 S5 => ?_) (.inr hln)
    refine wpAny_mono ((hsu a (X.pn ++ pins)).run [] s5 _ _ _ S5 (hts a na)) (fun f s6 hsp => ?_) fun _ _ z => False.elim z
    have end_ : ∀ {σ6 : L2.St} {H6 : Hp} {Q : Shared → Prop}, Inv (X.suite a (X.pn ++ pins)) [] σ6 H6 s6 → (∀ s7, Inv X pins (σ6.set i none) H6 s7 → Q s7) →
        wpAny (model X.prog X.w) X.A (do bindName X.env n .none; unbindBehindTheSuite X.env n pos') (fun _ s7 => Q s7) X.xe s6 := fun {σ6 H6 Q} S6 hq => gone_ok (inv_unsuite S6 ok) hN hi hln hq
    cases f with
    | next =>
      obtain ⟨σ6, H6, S6, q6⟩ := hsp
      exact end_ S6 fun s7 J7 => ⟨_, _, J7, q6⟩
    | brk =>
      obtain ⟨σ6, H6, S6, q6⟩ := hsp
      exact end_ S6 fun s7 J7 => ⟨_, _, J7, q6⟩
    | cont =>
      obtain ⟨σ6, H6, S6, q6⟩ := hsp
      exact end_ S6 fun s7 J7 => ⟨_, _, J7, q6⟩
    | ret u =>
      obtain ⟨v6, σ6, H6, S6, r6, q6⟩ := hsp
      exact end_ S6 fun s7 J7 => ⟨_, _, _, J7, r6, q6⟩
  · cases f with
    | next =>
      obtain ⟨σ', H', J', q⟩ := hsp
      exact wpAny_execs_nil ⟨σ', H', J'.ofTry ok, q⟩
    | brk =>
      obtain ⟨σ', H', J', q⟩ := hsp
      exact ⟨σ', H', J'.ofTry ok, q⟩
    | cont =>
      obtain ⟨σ', H', J', q⟩ := hsp
      exact ⟨σ', H', J'.ofTry ok, q⟩
    | ret u =>
      obtain ⟨v, σ', H', J', r, q⟩ := hsp
      exact ⟨v, σ', H', J'.ofTry ok, r, q⟩
end
section
variable {K : PySem.W.Frag} {L : Lg} {σ : L2.St} {D : Ends} {c : Value} {C : Addr} {d : Option Addr} {i : Nat} {ts : Addr → TS}
/-- the clause takes it -/
theorem t_catch (b : PySem.W.exmOne K (.ref C) c = some true) (k : ∀ a, Tr ((a, exF a C d) :: L) fun H => ts a (Ends.gone D i) (σ.set i (some (.ref a))) H) : Tr L fun H => wCat K c i ts D (.ref C) d σ H :=
  fun H l => ⟨C, rfl, b, fun a na => k a _ (l.new na)⟩
end
/-! ### what an error is an instance of -/
/-- what the text says of the class at C, so that isinstance asks its instances rightly -/
structure Sbj (K : PySem.W.Frag) (C : Addr) : Prop where
  cl : PySem.W.isClsIn K C = true
  ga : PySem.W.findIn K (.ref C) "__getattribute__" = some (some (.builtin "BaseException.__getattribute__"))
  gg : PySem.W.findIn K (.ref C) "__getattr__" = some none
  su : PySem.W.subIn K (.ref C) (.type "BaseException") = some true
  ha : PySem.W.findIn K (.ref C) "__class__" = some (some (.builtin "object.__class__"))
  hn : PySem.W.specialIn K (.builtin "object.__class__") "__get__" = some (some (.builtin "getset_descriptor.__get__"))
  tk : PySem.W.takesIn K (.builtin "object.__class__") = some true
  hm : PySem.W.mroIn K C (.type "object") = some true
  hd : PySem.W.hasDictIn K C = true
/-- the error at a is tracked -/
def ErH (H : Hp) (a C : Addr) (d : Option Addr) : Prop := H a = some (exF a C d) ∧ ∀ dx, d = some dx → ∃ fs, H dx = some (.xd fs)
theorem er_inst {X : Cx} {pins : List (Addr × Obj)} {σ : L2.St} {H : Hp} {s : Shared} {a C : Addr} {d : Option Addr} (I : Inv X pins σ H s) (e : ErH H a C d) : ∃ ox od, PySem.W.InstAt s.heap a ox C od := by
  obtain ⟨oe, vs, h1, h2, h3, h4, _⟩ := exF_at I.hok e.1
  cases d with
  | none => exact ⟨oe, none, ⟨h1, h2, by unfold PySem.W.notCls; rw [h4] <;> rfl, by rw [h3]; exact True.intro⟩⟩
  | some dx =>
    obtain ⟨fs, q⟩ := e.2 dx rfl
    obtain ⟨mA, hns, _⟩ := (show ObjOk X.prog X.w H s.heap dx (.xd fs) from I.hok dx _ q)
    obtain ⟨od, ho, _⟩ := lookIn_ns hns
    exact ⟨oe, some od, ⟨h1, h2, by unfold PySem.W.notCls; rw [h4] <;> rfl, by rw [h3]; exact ho⟩⟩
/-- isinstance(e, c) -/
def rIsE (K : PySem.W.Frag) : List V → Hp → VK → Prop := fun xs H Q => ∃ (a C : Addr) (d : Option Addr) (c : V) (u : Value) (b : Bool), xs = [.ref a, c] ∧ ErH H a C d ∧ Sbj K C ∧ ClsV c u ∧ PySem.W.kitOne K (.ref C) u = some b ∧ Q (.bl b) H
/-- isinstance(e, (c, ..)) -/
def rIsET (K : PySem.W.Frag) : List V → Hp → VK → Prop := fun xs H Q => ∃ (a C tp : Addr) (d : Option Addr) (cs : List V) (us : List Value) (b : Bool), xs = [.ref a, .ref tp] ∧ ErH H a C d ∧ Sbj K C ∧ H tp = some (.tup cs) ∧ Paired ClsV cs us ∧ PySem.W.kitAny K (.ref C) us = some b ∧ Q (.bl b) H
section
variable {X : Cx}
theorem c_isE : CallR X (.builtin "isinstance") (rIsE X.K) := by
  intro pins s σ H xs us Q I r h
  obtain ⟨a, C, d, c, u, b, rfl, eh, T, k, e, q⟩ := h
  obtain ⟨u1, u2, rfl, r1, r2⟩ := vals2 r
  have e2 := k.eq r2
  subst e2
  obtain rfl : u1 = Value.ref a := r1
  obtain ⟨ox, od, J⟩ := er_inst I eh
  exact PySem.W.kia_one (PySem.W.kitx_exc T.cl T.ga T.gg T.su T.ha T.hn T.tk T.hm) I.kIn J e (fun z => nomatch z) fun tk => ⟨.bl b, H, I.tok tk, rfl, q⟩
theorem c_isET : CallR X (.builtin "isinstance") (rIsET X.K) := by
  intro pins s σ H xs us Q I r h
  obtain ⟨a, C, tp, d, cs, ws, b, rfl, eh, T, hT, k, e, q⟩ := h
  obtain ⟨u1, u2, rfl, r1, r2⟩ := vals2 r
  cases (show u2 = Value.ref tp from r2)
  obtain rfl : u1 = Value.ref a := r1
  obtain ⟨ox, od, J⟩ := er_inst I eh
  obtain ⟨_, its, rv, o, h1, h2, n, h3⟩ := (show ObjOk X.prog X.w H s.heap tp (.tup cs) from I.hok tp _ hT)
  have e3 := ClsV.all k rv
  subst e3
  obtain ⟨oc, od', dt, sl⟩ := o
  simp only at h2 h3
  subst h2 h3
  exact PySem.W.kia_tup (PySem.W.kitx_exc T.cl T.ga T.gg T.su T.ha T.hn T.tk T.hm) I.kIn J h1 e (fun z => nomatch z) fun tk => ⟨.bl b, H, I.tok tk, rfl, q⟩
/-- e.f, a field of an error -/
def rExA (K : PySem.W.Frag) (f : Str) (x : V) (H : Hp) (Q : VK) : Prop := ∃ (a C dx : Addr) (fs : List (Str × V)) (v : V), x = .ref a ∧ H a = some (exF a C (some dx)) ∧ H dx = some (.xd fs) ∧ Sbj K C ∧
  PySem.W.findIn K (.ref C) f = some none ∧ fs.lookup f = some v ∧ Q v H
def tExA (K : PySem.W.Frag) (f : Str) (te : TE) : TE := fun σ H Q => te σ H fun x H1 => rExA K f x H1 Q
theorem pe_exA {e : Expr} {f : Str} {te : TE} {pos : Pos} (he : PE X e te) (hb : attributeBase e f X.env (eval e X.env) = eval e X.env := by rfl) : PE X (.Attribute e f pos) (tExA X.K f te) := by
  refine ⟨fun pins s σ H Q I h => attr_of hb (thn (he.run pins s σ H _ I h) fun u s1 hh => ?_)⟩
  obtain ⟨x, H1, I1, rx, a, C, dx, fs, v, ex, ea, ed, T, no, lk, q⟩ := hh
  subst ex
  obtain rfl : u = Value.ref a := rx
  obtain ⟨oe, vs, h1, h2, h3, h4, _⟩ := exF_at I1.hok ea
  obtain ⟨mA, hns, hr⟩ := (show ObjOk X.prog X.w H1 s1.heap dx (.xd fs) from I1.hok dx _ ed)
  obtain ⟨od, ho, hl⟩ := lookIn_ns hns
  obtain ⟨u, hu, ru⟩ := RelO.some_of (v := v) (o := mA f) (by rw [← lk]; exact hr f)
  have J : PySem.W.InstAt s1.heap a oe C (some od) := ⟨h1, h2, by unfold PySem.W.notCls; rw [h4] <;> rfl, by rw [h3]; exact ho⟩
  exact HandSPX.exc_get I1.kIn J T.ga T.gg T.su (PySem.W.findObj_own T.hd no rfl (by rw [hl, hu])) (handed_of ru) ⟨v, H1, I1.tok _, ru, q⟩
end
section
variable {K : PySem.W.Frag} {L R R' : Lg} {a C : Addr} {Q : VK} {b : Bool}
/-- the error at a, by the ledger -/
def Er (L : Lg) (a C : Addr) : Prop := ∃ d, (a, exF a C d) ∈ L ∧ ∀ dx, d = some dx → ∃ fs, (dx, HO.xd fs) ∈ L
theorem Er.mono {M : Lg} (h : Er L a C) (s : ∀ p ∈ L, p ∈ M) : Er M a C := by
  obtain ⟨d, m, k⟩ := h
  exact ⟨d, s _ m, fun dx e => by obtain ⟨fs, z⟩ := k dx e; exact ⟨fs, s _ z⟩⟩
theorem Er.one (h : (a, exF a C none) ∈ L) : Er L a C := ⟨none, h, fun _ e => nomatch e⟩
theorem Er.two {dx : Addr} {fs : List (Str × V)} (h : (a, exF a C (some dx)) ∈ L) (k : (dx, HO.xd fs) ∈ L) : Er L a C := ⟨some dx, h, fun _ e => ⟨fs, by cases e; exact k⟩⟩
theorem Er.get {H : Hp} (h : Er L a C) (l : Led H L) : ∃ d, ErH H a C d := by
  obtain ⟨d, m, k⟩ := h
  exact ⟨d, l.has _ m, fun dx e => by obtain ⟨fs, z⟩ := k dx e; exact ⟨fs, l.has _ z⟩⟩
theorem t_isE {D : Addr} (h : Er L a C) (T : Sbj K C) (e : PySem.W.kitOne K (.ref C) (.ref D) = some b) (k : Tr L fun H => Q (.bl b) H) : Tr L fun H => rIsE K [.ref a, .ref D] H Q := fun H l => by
  obtain ⟨d, eh⟩ := h.get l
  exact ⟨a, C, d, _, _, b, rfl, eh, T, .own D, e, k H l⟩
theorem t_isEB {n : String} (h : Er L a C) (T : Sbj K C) (e : PySem.W.kitOne K (.ref C) (.type n) = some b) (k : Tr L fun H => Q (.bl b) H) : Tr L fun H => rIsE K [.ref a, .ty n] H Q := fun H l => by
  obtain ⟨d, eh⟩ := h.get l
  exact ⟨a, C, d, _, _, b, rfl, eh, T, .ty n, e, k H l⟩
def clsOf : V → Value
  | .ref C => .ref C
  | .ty n => .type n
  | _ => .none
def isCl : V → Bool
  | .ref _ => true
  | .ty _ => true
  | _ => false
theorem cls_all : ∀ cs : List V, cs.all isCl = true → Paired ClsV cs (cs.map clsOf)
  | [], _ => .nil
  | c :: cs, h => by
    rw [List.all_cons, Bool.and_eq_true] at h
    refine .cons ?_ (cls_all cs h.2)
    cases c with
    | ref C => exact .own C
    | ty n => exact .ty n
    | non => cases h.1
    | bl b => cases h.1
    | int b => cases h.1
    | str b => cases h.1
    | _ => cases h.1
theorem t_isET {tp : Addr} {cs : List V} (h : Er L a C) (T : Sbj K C) (hp : Pick tp (.tup cs) L R) (hc : cs.all isCl = true) (e : PySem.W.kitAny K (.ref C) (cs.map clsOf) = some b) (k : Tr L fun H => Q (.bl b) H) : Tr L fun H => rIsET K [.ref a, .ref tp] H Q := fun H l => by
  obtain ⟨d, eh⟩ := h.get l
  exact ⟨a, C, tp, d, _, _, b, rfl, eh, T, l.get hp, cls_all cs hc, e, k H l⟩
/-- e.f -/
theorem t_exA {dx : Addr} {fs : List (Str × V)} {f : Str} {v : V} (hp : Pick a (exF a C (some dx)) L R) (hd : Pick dx (.xd fs) L R') (T : Sbj K C) (no : PySem.W.findIn K (.ref C) f = some none) (lk : fs.lookup f = some v)
    (k : Tr L fun H => Q v H) : Tr L fun H => rExA K f (.ref a) H Q := fun H l => ⟨a, C, dx, fs, v, rfl, l.get hp, l.get hd, T, no, lk, k H l⟩
theorem t_exA0 {σ : L2.St} {f : Str} {te : TE} (k : Tr L fun H => te σ H fun x H1 => rExA K f x H1 Q) : Tr L fun H => tExA K f te σ H Q := k
end
/-! ### str(i), repr(i) -/
def rStrI : List V → Hp → VK → Prop := fun xs H Q => ∃ i : Int, xs = [.int i] ∧ i.natAbs.log2 < 1920 ∧ Q (.str (toString i)) H
theorem c_strI {X : Cx} : CallR X (.type "str") rStrI := call_str_int
theorem str_ok {i : Int} (h0 : -1000000 ≤ i) (h1 : i ≤ 1000000) : i.natAbs < 2 ^ 1000 := by
  have z : (1000001 : Nat) < 2 ^ 1000 := by decide
  omega
theorem t_strI {L : Lg} {i : Int} {Q : VK} (h : i.natAbs < 2 ^ 1000) (k : Tr L fun H => Q (.str (toString i)) H) : Tr L fun H => rStrI [.int i] H Q := fun H l =>
  ⟨i, rfl, by
    by_cases z : i.natAbs = 0
    · rw [z]; decide
    · exact Nat.lt_trans ((Nat.log2_lt z).mpr h) (by decide), k H l⟩
def rReprI : List V → Hp → VK → Prop := fun xs H Q => ∃ i : Int, xs = [.int i] ∧ -999999999999 ≤ i ∧ i ≤ 999999999999 ∧ Q (.str (toString i)) H
theorem c_reprI {X : Cx} (gd : X.A.guards = some []) (hu : X.A.units + 64 < cLine) : CallR X (.builtin "repr") rReprI := fun pins s σ H xs us Q I r ⟨i, e, h1, h2, q⟩ =>
  call_repr gd hu pins s σ H xs us Q I r ⟨.int i, .int i, e, .int i, by
    have : (2 ^ 1920 : Nat) > 999999999999 := by decide
    simp only [PyData.showable, decide_eq_true_eq]
    by_cases z : i.natAbs = 0
    · rw [z]; decide
    · exact (Nat.log2_lt z).mpr (by omega), by simp only [PyData.depth]; decide, by have := PyData.shown_int_le2 h1 h2; rw [sizeLine_eq]; omega, by
    have e : (PyData.int i).shown = (toString i : Str) := by simp only [PyData.shown]
    rw [e]; exact q⟩
theorem t_reprInt {L : Lg} {i : Int} {Q : VK} (h1 : -999999999999 ≤ i) (h2 : i ≤ 999999999999) (k : Tr L fun H => Q (.str (toString i)) H) : Tr L fun H => rReprI [.int i] H Q := fun H l => ⟨i, rfl, h1, h2, k H l⟩
theorem strI_len {i : Int} (h1 : -999999999999 ≤ i) (h2 : i ≤ 999999999999) : (toString i : Str).length ≤ 13 := by
  have e := PyData.shown_int_le2 h1 h2
  simpa only [PyData.shown] using e
theorem strOk_of (s : String) : PyData.strOk (Str.ofString s) = true := by
  unfold PyData.strOk
  rw [Str.ofString_eq_toList]
  simp only [List.all_toArray, List.all_map, List.all_eq_true, Function.comp_apply, decide_eq_true_eq]
  intro c _
  have := c.valid
  rcases this with h | h
  · exact Nat.lt_trans h (by decide)
  · exact h.2
theorem strOk_add {x y : Str} (a : PyData.strOk x = true) (b : PyData.strOk y = true) : PyData.strOk (x ++ y) = true := by
  unfold PyData.strOk at a b ⊢
  show ((x.cps ++ y.cps).all _) = true
  rw [Array.all_append, a, b]; rfl
def rAddS (x y : V) (H : Hp) (Q : VK) : Prop := ∃ i j, x = .str i ∧ y = .str j ∧ i.length + j.length ≤ sizeLine ∧ Q (.str (i ++ j)) H
theorem op_addS {X : Cx} : OpR X (binaryOp .Add) rAddS := op_add_str
theorem t_addS {L : Lg} {x y : Str} {Q : VK} (h : x.length + y.length ≤ 10000) (k : Tr L fun H => Q (.str (x ++ y)) H) : Tr L fun H => rAddS (.str x) (.str y) H Q :=
  fun H l => ⟨x, y, rfl, rfl, by rw [sizeLine_eq]; omega, k H l⟩
theorem t_addStr {L : Lg} {x y : Str} {G : V → Hp → Prop} (h : x.length + y.length ≤ 10000) (k : Tr L fun H => G (.str (x ++ y)) H) : Tr L fun H => ∃ i j, V.str x = V.str i ∧ V.str y = V.str j ∧ i.length + j.length ≤ sizeLine ∧ G (.str (i ++ j)) H :=
  fun H l => ⟨x, y, rfl, rfl, by rw [sizeLine_eq]; omega, k H l⟩
theorem t_gone {L : Lg} {D : Ends} {i : Nat} {σ τ : L2.St} (w : σ.set i none = τ) (k : Tr L fun H => D.nx τ H) : Tr L fun H => (Ends.gone D i).nx σ H := by subst w; exact k
theorem t_goneR {L : Lg} {D : Ends} {i : Nat} {v : V} (k : Tr L fun H => D.rt v H) : Tr L fun H => (Ends.gone D i).rt v H := k
/-! ### count of truth values -/
def eqb (k : Bool) (v : Value) : Bool := match v with
  | .bool b => b == k
  | _ => false
theorem bools_gives {k : Bool} : ∀ {us : List Value} {bs : List Bool}, Vals (bs.map V.bl) us → (∀ y ∈ us, ∀ A s, SeqAt.EqAt A s y (.bool k) (eqb k y)) ∧ us.countP (eqb k) = bs.count k
  | [], [], _ => ⟨fun y hy => by (cases hy), rfl⟩
  | u :: us, b :: bs, h => by
    cases h with
    | cons r h =>
      obtain rfl : u = Value.bool b := r
      obtain ⟨h1, h2⟩ := bools_gives (k := k) h
      refine ⟨fun y hy => ?_, ?_⟩
      · rcases List.mem_cons.mp hy with e | e
        · rw [e]
          exact fun A s => SeqAt.EqAt.bool_bool b k
        · exact h1 y e
      · rw [List.countP_cons, h2, List.count_cons]
        show _ + (if (b == k) = true then 1 else 0) = _
        rfl
  | [], _ :: _, h => nomatch h
  | _ :: _, [], h => nomatch h
def rCntB (K : PySem.W.Frag) : V → List V → Hp → VK → Prop := fun x xs H Q => ∃ (p : Addr) (bs : List Bool) (k : Bool), x = .ref p ∧ xs = [.bl k] ∧ SqL K H p (bs.map V.bl) ∧ Q (.int (bs.count k : Nat)) H
theorem mt_countB {X : Cx} : MtR X "list.count" (rCntB X.K) := by
  intro pins s σ H x xs v us Q I rx rxs h
  obtain ⟨p, bs, k, rfl, rfl, hs, q⟩ := h
  cases rx
  obtain ⟨u, rfl, ru⟩ := rxs.one
  obtain rfl : u = Value.bool k := ru
  obtain ⟨its, rv, ⟨⟨cls, dd, data, sl⟩, n, ho, hc, hdn, hd⟩, hlen⟩ := I.list hs
  simp only at hc hd
  subst hc hd
  obtain ⟨g1, g2⟩ := bools_gives (k := k) rv
  refine call_meets PySem.F.slot_list_count ⟨_, ho, rfl⟩ PySem.F.entry_list_count (PySem.F.args_list_count_2 _ _)
    (SeqAt.list_countAt p its.toArray n dd sl (.bool k) (eqb k)) ⟨ho, fun y hy => g1 y (by simpa using hy) _ _, ?_⟩
  refine ⟨.int (bs.count k : Nat), H, I.tok _, ⟨s.toks, ?_⟩, q⟩
  show Value.int ((its.toArray.toList.countP (eqb k) : Nat) : Int) s.toks = Value.int ((bs.count k : Nat) : Int) s.toks
  rw [show its.toArray.toList.countP (eqb k) = bs.count k from g2]
theorem t_countB {K : PySem.W.Frag} {L R : Lg} {p : Addr} {bs : List Bool} {k : Bool} {Q : VK} (hp : Pick p (.lst (bs.map V.bl)) L R) (q : Tr L fun H => Q (.int (bs.count k : Nat)) H) : Tr L fun H => rCntB K (.ref p) [.bl k] H Q :=
  fun H l => ⟨p, bs, k, rfl, rfl, sqL hp l, q H l⟩
theorem flat_bools : ∀ bs : List Bool, (bs.map V.bl).all flatV = true
  | [] => rfl
  | b :: bs => by rw [List.map_cons, List.all_cons, flat_bools bs]; rfl
theorem t_indexB {K : PySem.W.Frag} {L R : Lg} {p : Addr} {bs : List Bool} {k : Bool} {Q : VK} (j : Nat) (hp : Pick p (.lst (bs.map V.bl)) L R) (h1 : bs[j]? = some k) (h2 : ∀ m, m < j → bs[m]? ≠ some k) (q : Tr L fun H => Q (.int (j : Nat)) H) : Tr L fun H => rIndex K (.ref p) [.bl k] H Q :=
  fun H l => ⟨p, bs.map V.bl, .bl k, j, .bl k, rfl, rfl, sqL hp l, rfl, flat_bools bs, by rw [List.getElem?_map, h1]; rfl, by show (k == k) = true; cases k <;> rfl, fun m z' hm hz => by
    rw [List.getElem?_map] at hz
    cases e : bs[m]? with
    | none => rw [e] at hz; cases hz
    | some w =>
      rw [e] at hz
      cases hz
      show (w == k) = false
      have := h2 m hm
      rw [e] at this
      cases w <;> cases k <;> simp_all, q H l⟩
/-! ### a def out of a list of defs -/
/-- the def at f keeps the promise -/
def FO (P : Program) (w : World) (K : PySem.W.Frag) (mg : Str → Option Value) (base : Heap) (CX : CXT) (k : Nat) (f : Addr) (sp : Sp) : Prop := ∃ (fd : FuncData) (ps : List Str), PySem.W.keepIn K (.ref f) = true ∧ Binds K fd ps [] ∧ FnG P w K mg base CX k f fd ps sp
theorem ok_fv {P : Program} {w : World} {K : PySem.W.Frag} {mg : Str → Option Value} {base : Heap} {CX : CXT} {k : Nat} {x : Str} {ps : List Str} {sp : Sp} (h : Ok P w K mg base CX k x ps sp) : ∃ f, GV mg x (.ref f) ∧ ∀ j, k ≤ j → FO P w K mg base CX j f sp := by
  obtain ⟨f, fd, hm, hk, hb, F, _⟩ := h
  exact ⟨f, ⟨_, hm, rfl⟩, fun j hj => ⟨fd, ps, hk, hb, F.mono hj⟩⟩
def rFV (F : Addr → Sp → Prop) (E : XK) (ta : TA) (σ : L2.St) (v : V) (H : Hp) (Q : VK) : Prop := ∃ f sp, v = .ref f ∧ F f sp ∧ ta σ H fun vs H2 => sp vs H2 Q E
def tCallV (F : Addr → Sp → Prop) (E : L2.St → XK) (tf : TE) (ta : TA) : TE := fun σ H Q => tf σ H fun v H1 => rFV F (E σ) ta σ v H1 Q
theorem pe_callV {X : Cx} {CX : CXT} {k : Nat} {fe e : Expr} {es : List Expr} {tf : TE} {ta : TA} {E : L2.St → XK} {pos : Pos} (hr : RoomG k X.A) (hx : ∀ σ, PassesAt CX X σ (E σ)) (hf : PE X fe tf) (ha : PA X (e :: es) ta)
    (hc : eval (.Call fe (e :: es) [] pos) X.env = (do callWith pos (← eval fe X.env) [] (backTo pos (starEach (e :: es) X.env)) (backToKw pos (keywordEach [] X.env))) := by rfl)
    (he : starEach (e :: es) X.env = (false, eval e X.env) :: starEach es X.env := by rfl) (hpl : (backTo pos (starEach es X.env)).any (·.1) = false := by rfl) :
    PE X (.Call fe (e :: es) [] pos) (tCallV (FO X.prog X.w X.K X.mg X.base CX k) E tf ta) := by
  refine ⟨fun pins s σ H Q I h => ?_⟩
  rw [hc]
  refine wpAny_bind (thn (hf.run pins s σ H _ I h) fun u s1 ⟨v, H1, I1, rv, f, sp, ev, ⟨fd, ps, hk, hb, F⟩, q⟩ => ?_)
  subst ev
  obtain rfl : u = Value.ref f := rv
  exact PySem.W.callWith_K (h₀ := X.base) I1.ok.mod.kin hk (thn (ha.run pos pins s1 σ H1 _ I1 q) fun us s2 ⟨vs, H2, I2, r, q2⟩ => ⟨I2.kIn, runG F hr hb (hx σ) I2 r q2⟩) he hpl
section
variable {L : Lg} {σ : L2.St} {F : Addr → Sp → Prop} {E : L2.St → XK} {tf : TE} {ta : TA} {Q : VK}
theorem t_callV (k : Tr L fun H => tf σ H fun v H1 => rFV F (E σ) ta σ v H1 Q) : Tr L fun H => tCallV F E tf ta σ H Q := k
theorem t_FV {E : XK} {f : Addr} {sp : Sp} (h : F f sp) (k : Tr L fun H => ta σ H fun vs H2 => sp vs H2 Q E) : Tr L fun H => rFV F E ta σ (.ref f) H Q := fun H l => ⟨f, sp, rfl, h, k H l⟩
end
/-! ### classes with an own __init__ -/
/-- S.__init__(self, 'm'), S a class above ValueError that has none of its own -/
theorem pe_cinit {X : Cx} {e : Expr} {es : List Expr} {ta : TA} {p1 p2 pos : Pos} {pl : Sem Bool} {x : Str} {S : Addr} {mc : Value} (hg : Gl X x) (hm : X.mg x = some (.ref S)) (r : ClX.CRead X.K S mc)
    (vV : PySem.W.findCls X.K (.ref S) mc "__init__" = some (.val (.builtin "ValueError.__init__"))) (ha : PA X (e :: es) ta) (hdb : (x == ("__debug__" : Str)) = false := by decide)
    (hc : eval (.Call (.Attribute (.Name x p1) "__init__" p2) (e :: es) [] pos) X.env = (do
      let ov ← eval (.Name x p1) X.env
      standAt p2.atName
      let (f, first) ← holding [ov] (getMethod ov "__init__" pl)
      callWith pos f first (backTo pos (starEach (e :: es) X.env)) (backToKw pos (keywordEach [] X.env))) := by rfl)
    (he : starEach (e :: es) X.env = (false, eval e X.env) :: starEach es X.env := by rfl) (hpl : (backTo pos (starEach es X.env)).any (·.1) = false := by rfl) :
    PE X (.Call (.Attribute (.Name x p1) "__init__" p2) (e :: es) [] pos) (tVeI X.K ta) := by
  refine ⟨fun pins s σ H Q I h => PySem.W.methodCall_KW (ld_glob I hg hm ?_ hdb) hc⟩
  refine PySem.W.method_cls I.kIn r.ga (PySem.W.cls_value I.kIn r.rd vV rfl ?_)
  show wpAny _ _ (callWith pos (Value.builtin "ValueError.__init__") [] (backTo pos (starEach (e :: es) X.env)) []) _ _ _
  refine PyProof.Rows.callWith_method1 (thn (ha.run pos pins _ σ H _ (I.tok _) h) fun us s1 ⟨vs, H1, I1, r1, a, C, ws, ev, hl, T, ea, q⟩ => ?_) he hpl
  subst ev
  cases r1 with
  | @cons _ u0 _ ur ra rw' =>
    obtain rfl : u0 = Value.ref a := ra
    exact oinit_ok T I1 ea (by rw [← Paired.length rw', sizeLine_eq]; omega) fun s' J => ⟨.non, H1, J, rfl, q⟩
/-- the promise of such an __init__: the field f is set -/
def spI (C : Addr) (f : Str) : Sp := fun vs H Q _ => ∃ (a : Addr) (y : V), vs = [.ref a, y] ∧ H a = some (exo a C none) ∧ ∀ dx, H dx = none → dx ≠ a → Q .non (upd (upd H dx (exd dx [(f, y)])) a (exo a C (some dx)))
/-- C(e) -/
def rErr (C : Addr) (f : Str) (vs : List V) (H : Hp) (Q : XK) : Prop := ∃ y, vs = [y] ∧ ∀ d, H d = none → Q (.ref C) (some d) (upd H d (.xd [(f, y)]))
def tErr (C : Addr) (f : Str) (ta : TA) : L2.St → Hp → XK → Prop := fun σ H Q => ta σ H fun vs H1 => rErr C f vs H1 Q
theorem PMk.imp {X : Cx} {e : Expr} {t t' : L2.St → Hp → XK → Prop} (h : L2N.PMk X e t) (z : ∀ σ H Q, t' σ H Q → t σ H Q) : L2N.PMk X e t' := fun pins s σ H Q I y => h pins s σ H Q I (z σ H Q y)
def tWk (ta : TA) : TA := fun σ H k => ∃ k1, ta σ H k1 ∧ ∀ vs H1, k1 vs H1 → k vs H1
theorem pa_wk {X : Cx} {es : List Expr} {ta : TA} (ha : PA X es ta) : PA X es (tWk ta) := ⟨fun pos pins s σ H Q I h => by
  obtain ⟨k1, h1, z⟩ := h
  exact thn (ha.run pos pins s σ H k1 I h1) fun us s1 ⟨vs, H1, I1, r, q⟩ => ⟨vs, H1, I1, r, z _ _ q⟩⟩
theorem err_mk {C : Addr} {f : Str} {vs : List V} {H : Hp} {Q : XK} (h : rErr C f vs H Q) : vs.length ≤ 1000 ∧ ∀ a, H a = none → spI C f (.ref a :: (vs ++ [])) (upd H a (exo a C none))
    (fun v H2 => v = .non ∧ ∃ (d : Addr) (fs : List (Str × V)), H2 a = some (exo a C (some d)) ∧ H2 d = some (exd d fs) ∧ H d = none ∧ Q (.ref C) (some d) (upd (del H2 a) d (.xd fs))) (fun _ _ _ => False) := by
  obtain ⟨y, rfl, k⟩ := h
  refine ⟨by show 1 ≤ 1000; omega, fun a na => ⟨a, y, rfl, upd_same, fun dx hd ne => ⟨rfl, dx, [(f, y)], upd_same, by rw [upd_ne ne, upd_same], by rw [upd_ne ne] at hd; exact hd, ?_⟩⟩⟩
  have hd' : H dx = none := by rw [upd_ne ne] at hd; exact hd
  have e : upd (del (upd (upd (upd H a (exo a C none)) dx (exd dx [(f, y)])) a (exo a C (some dx))) a) dx (.xd [(f, y)]) = upd H dx (.xd [(f, y)]) := by
    funext b
    by_cases hb : b = dx
    · subst hb; rw [upd_same, upd_same]
    · rw [upd_ne hb, upd_ne hb]
      by_cases ha : b = a
      · subst ha; rw [del_same, na]
      · rw [del_ne ha, upd_ne ha, upd_ne hb, upd_ne ha]
  rw [e]
  exact k dx hd'
/-- what is known of such a class at C -/
structure ErrI (P : Program) (w : World) (K : PySem.W.Frag) (mg : Str → Option Value) (base : Heap) (x f : Str) (C : Addr) : Prop where
  g : mg x = some (.ref C)
  T : OexC K C
  ini : ∃ (fI : Addr) (fd : FuncData), PySem.W.findIn K (.ref C) "__init__" = some (some (.ref fI)) ∧ PySem.W.typeIn K (.ref fI) = some (.type "function") ∧ Binds K fd ["self", f] [] ∧ FnOk P w K mg base CX0 1 fI fd ["self", f] (spI C f)
/-- the end of C(e, ..) -/
theorem mk_endN {X : Cx} {pins : List (Addr × Obj)} {σ : L2.St} {H1 H2 : Hp} {Q : XK} {hp hp2 h2 : Heap} {g1 g2 : Array GenState} {d1 d2 : Drawn} {t1 t2 : Nat} {os1 os2 : OsState} {a C d : Addr} {fs : List (Str × V)} (T : Raises X (.ref C)) (I1 : Inv X pins σ H1 ⟨hp, g1, d1, t1, os1⟩)
    (ge : hp.objs.size ≤ a) (st : ∀ b o, hp.get? b = some o → hp2.get? b = some o) (un : Un (frs X.stack) [] (upd H1 a (exo a C none)) H2 hp2 h2) (hok : HOk X.prog X.w H2 h2) (ho : os2 = os1) (hb : AllBare g2)
    (ea : H2 a = some (exo a C (some d))) (ed : H2 d = some (exd d fs)) (nd : H1 d = none) (q : Q (.ref C) (some d) (upd (del H2 a) d (.xd fs))) : L2N.MkP X pins σ Q (.ref a) ⟨h2, g2, d2, t2, os2⟩ := by
  obtain ⟨t0, G, J, k, ge2, hoe, na⟩ := mk_end0 (d2 := d2) (t2 := t2) I1 ge st un hok ho hb ea ed nd
  exact ⟨a, _, _, _, _, .ref C, some d, rfl, J, k, ge2, hoe, ⟨rfl, rfl, fun vs e => by cases e; rfl⟩, rfl, rfl, na, rfl, hb, T, q⟩
theorem pe_mkI {X : Cx} {x f : Str} {C : Addr} {ta : TA} {e : Expr} {p pos : Pos} {k : Nat} (T : ErrI X.prog X.w X.K X.mg X.base x f C) (hr : Room k X.A) (ha : PA X [e] ta) (hk : 2 ≤ k) (hg : Gl X x := by rfl) (hdb : (x == ("__debug__" : Str)) = false := by decide)
    (he : starEach [e] X.env = (false, eval e X.env) :: starEach [] X.env := by rfl) (hpl : (backTo pos (starEach [] X.env)).any (·.1) = false := by rfl) : L2N.PMk X (.Call (.Name x p) [e] [] pos) (tErr C f ta) := by
  obtain ⟨gm, T, fI, fd, iC, tI, hb, F⟩ := T
  intro pins s σ H Q I h
  refine wpAny_Call_Name_kw (ld_glob I hg gm (PySem.W.callWith_K (h₀ := X.base) I.ok.mod.kin T.kC (thn (ha.run pos pins s σ H _ I h) fun ws s1 z => ?_) he hpl) hdb)
  obtain ⟨vs, H1, I1, r1, z⟩ := z
  have z0 := z
  obtain ⟨y0, rfl, _⟩ := z0
  obtain ⟨u, rfl, ru⟩ := vals1 r1
  refine ⟨I1.kIn, ?_⟩
  show wpAny _ _ (call (.ref C) [u]) _ _ _
  obtain ⟨nm, q, N, bs, bm, sn, sub, ab, col, dd, k0, k1, k2, k3, k5, hC, hbm⟩ := T.cls
  obtain ⟨hp, g, dr, tk, os⟩ := s1
  have ge : hp.objs.size ≤ hp.objs.size + 1 := Nat.le_succ _
  have na : H1 (hp.objs.size + 1) = none := I1.hok.fresh ge
  have st : ∀ b o, hp.get? b = some o → ((hp.push (PySem.W.kdv_tup [u])).push (HandSPX.excO C hp.objs.size)).get? b = some o := fun b o e => Heap.get?_push_of_some _ (Heap.get?_push_of_some _ e)
  have at1 : ((hp.push (PySem.W.kdv_tup [u])).push (HandSPX.excO C hp.objs.size)).get? (hp.objs.size + 1) = some (HandSPX.excO C hp.objs.size) := by heap_get
  have I2 : Inv X pins σ (upd H1 (hp.objs.size + 1) (exo (hp.objs.size + 1) C none)) ⟨(hp.push (PySem.W.kdv_tup [u])).push (HandSPX.excO C hp.objs.size), g, dr, tk, os⟩ := I1.laid (t' := tk) st ge (exo_ok at1)
  have rr : Vals [V.ref (hp.objs.size + 1), y0] [Value.ref (hp.objs.size + 1), u] := .cons rfl (.cons ru .nil)
  have hq := (err_mk z).2 (hp.objs.size + 1) na
  refine wpAny_call (HandSPX.call_own PySem.F.excBase_ValueError (fun Y => HandSPX.refsVE_contains Y bm hbm) (I1.kIn _ _ hC) (PySem.W.looks_findIn I1.kIn iC) (fun self => PySem.W.bind_fn I1.kIn self tI) (by rw [sizeLine_eq]; show 1 ≤ 16777216; decide)
    (codeAny_mono (F.run _ X.stack _ _ ⟨[Value.ref (hp.objs.size + 1), u], []⟩ [Value.ref (hp.objs.size + 1), u] _ _ (fun _ _ _ => False) ((hr.mono hk).make C [u] []) (I2.env0.make C [u] []) (hb _ [Value.ref (hp.objs.size + 1), u] I2.kIn rfl) rr hq) fun res s2 w2 => ?_))
  match res, w2 with
  | .error e, w2 => exact pass0 pins σ _ _ e s2 I2 w2
  | .ok (.ret v), w2 =>
    obtain ⟨v2, H2, os2, ba2, un2, ok2, rv, ev, d, fs, ea, ed, hd1, q2⟩ := w2
    subst ev
    obtain ⟨h2, g2, d2, t2, os'⟩ := s2
    exact ⟨rv, mk_endN (raises_own T.exC T.tyC) I1 ge st un2 ok2 os2 ba2 ea ed hd1 q2⟩
  | .ok .next, w2 => exact False.elim w2
  | .ok .brk, w2 => exact False.elim w2
  | .ok .cont, w2 => exact False.elim w2
def tRz (W : WX) (t : L2.St → Hp → XK → Prop) : TS := fun _ σ H => t σ H fun cls d H' => W cls d σ H'
theorem ps_raiseI {X : Cx} {W : WX} {e : Expr} {t : L2.St → Hp → XK → Prop} {pos : Pos} (hc : X.calm = true) (tk : L2N.Takes X W) (he : L2N.PMk X e t) : PS X (.Raise (some e) none pos) (tRz W t) := L2N.ps_raise hc tk he
section
variable {L : Lg} {σ : L2.St} {D : Ends} {W : WX} {t : L2.St → Hp → XK → Prop} {C : Addr} {f : Str} {ta : TA} {Q : XK} {y : V}
theorem t_rz (k : Tr L fun H => t σ H fun cls d H' => W cls d σ H') : Tr L fun H => tRz W t D σ H := k
theorem t_err (k : Tr L fun H => ta σ H fun vs H1 => rErr C f vs H1 Q) : Tr L fun H => tErr C f ta σ H Q := k
theorem t_rErr (k : ∀ d, Tr ((d, .xd [(f, y)]) :: L) fun H => Q (.ref C) (some d) H) : Tr L fun H => rErr C f [y] H Q := fun H l => ⟨y, rfl, fun d hd => k d _ (l.new hd)⟩
end
theorem GV.ref {mg : Str → Option Value} {x : Str} {C : Addr} (h : GV mg x (.ref C)) : mg x = some (.ref C) := by
  obtain ⟨u, e, r⟩ := h
  obtain rfl : u = Value.ref C := r
  exact e
/-! ### from the text -/
/-- the statement at place j of a class's body -/
def inCls (s : Stmt) (j : Nat) : Stmt := match s with
  | .ClassDef _ _ _ b _ _ _ _ _ _ _ => b.getD j (.Pass ⟨0, 0, 0, 0⟩)
  | s => s
section
variable {P : Program} {w : World} {K : PySem.W.Frag} {mg : Str → Option Value} {base : Heap}
theorem init_ok {f qual : Str} {st : Stmt} {fI C : Addr} {od an : Option Addr} {sl : Array (Option Value)} {oc kV dc pm cd ct : Value} {t : TS} (S : FnScope ["self", f] ["self", f] (defScope st))
    (lk : K.lookup fI = some ⟨oc, od, .func (PySem.W.fnOf "__init__" qual (defArgs st) (defBody st) (defScope st) .none kV dc pm an cd ct), sl⟩) (hcd : PySem.W.codeIn K cd qual = true)
    (body : ∀ (A : Around) (outer : List Env) (s : Shared) (H : Hp) (Q : VK) (E : XK), PSs (cxOf CX0 P w K mg base ["self", f] qual (defScope st) fI cd A outer s H E).nox (defBody st) t)
    (run : ∀ (a : Addr) (y : V) (H : Hp) (Q : VK), H a = some (exo a C none) → (∀ dx, H dx = none → dx ≠ a → Q .non (upd (upd H dx (exd dx [(f, y)])) a (exo a C (some dx)))) → t { nx := fun _ H' => Q .non H', rt := Q } [some (.ref a), some y] H) :
    FnOk P w K mg base CX0 1 fI (PySem.W.fnOf "__init__" qual (defArgs st) (defBody st) (defScope st) .none kV dc pm an cd ct) ["self", f] (spI C f) :=
  fn_of lk hcd S (fun vs H Q E h => by obtain ⟨a, y, rfl, _⟩ := h; rfl) fun A outer s H vs Q E hr hsp => by
    obtain ⟨a, y, rfl, ea, k⟩ := hsp
    exact ⟨t, (body A outer s H Q E).nox, run a y H Q ea k⟩
/-- the reading of such an __init__ -/
def tIni (K : PySem.W.Frag) (m f : Str) : TS := tSeq (tDrop (tVeI K (tCons (tVar 0) (tCons (tC (.str m)) tNil)))) (tOst K f (tVar 0) (tVar 1))
theorem ini_run {m f : Str} {C a : Addr} {y : V} {H : Hp} {Q : VK} (T : OexC K C) (no : PySem.W.findIn K (.ref C) f = some none) (ea : H a = some (exo a C none)) (k : ∀ dx, H dx = none → dx ≠ a → Q .non (upd (upd H dx (exd dx [(f, y)])) a (exo a C (some dx)))) :
    tIni K m f { nx := fun _ H' => Q .non H', rt := Q } [some (.ref a), some y] H := by
  refine ⟨.ref a, rfl, a, C, [.str m], rfl, by show 1 ≤ 1000; omega, T, ea, y, rfl, .ref a, rfl, a, C, rfl, T, no, .inl ⟨ea, k⟩⟩
/-- a class with its own __init__, all of it -/
theorem errI_mk {f x qual : Str} {st : Stmt} {fI S C N : Addr} {nm q : Str} {bs sub : List Value} {sn : List Str} {ab : Bool} {col : Option Bool} {dd : Option Addr} {k0 k1 k2 k3 k5 : Option Value} {od an : Option Addr} {sl : Array (Option Value)} {oc kV dc pm cd ct : Value} {t : TS}
    (S0 : FnScope ["self", f] ["self", f] (defScope st)) (body : ∀ (S : Addr), mg "StickyHeadsError" = some (.ref S) → ClX.CRead K S (.type "type") → PySem.W.findCls K (.ref S) (.type "type") "__init__" = some (.val (.builtin "ValueError.__init__")) →
      ∀ (A : Around) (outer : List Env) (s : Shared) (H : Hp) (Q : VK) (E : XK), PSs (cxOf CX0 P w K mg base ["self", f] qual (defScope st) fI cd A outer s H E).nox (defBody st) t)
    (run : ∀ (a : Addr) (y : V) (H : Hp) (Q : VK), OexC K C → PySem.W.findIn K (.ref C) f = some none → H a = some (exo a C none) → (∀ dx, H dx = none → dx ≠ a → Q .non (upd (upd H dx (exd dx [(f, y)])) a (exo a C (some dx)))) → t { nx := fun _ H' => Q .non H', rt := Q } [some (.ref a), some y] H)
    (binds : ∀ (us : List Value), us.length = 2 → bindArgs (PySem.W.fnOf "__init__" qual (defArgs st) (defBody st) (defScope st) .none kV dc pm an cd ct) ⟨us, []⟩ = pure ((["self", f] : List Str).zip us))
    (g : GV mg x (.ref C)) (gS : GV mg "StickyHeadsError" (.ref S)) (iC : PySem.W.findIn K (.ref C) "__init__" = some (some (.ref fI))) (tI : PySem.W.typeIn K (.ref fI) = some (.type "function"))
    (lk : K.lookup fI = some ⟨oc, od, .func (PySem.W.fnOf "__init__" qual (defArgs st) (defBody st) (defScope st) .none kV dc pm an cd ct), sl⟩) (hcd : PySem.W.codeIn K cd qual = true)
    (xL : K.lookup C = some (excClassObj nm q C N bs [.ref S, .type "ValueError", .type "Exception", .type "BaseException", .type "object"] true sn sub ab col dd k0 k1 k2 k3 k5 "ValueError.__new__"))
    (sa : PySem.W.findIn K (.ref C) "__setattr__" = some (some (.builtin "object.__setattr__"))) (exC : PySem.W.subIn K (.ref C) (.type "BaseException") = some true) (tyC : PySem.W.typeIn K (.ref C) = some (.type "type")) (kC : PySem.W.keepIn K (.ref C) = true)
    (no : PySem.W.findIn K (.ref C) f = some none) (rd : PySem.W.readsIn K S (.type "type") = true) (ga : PySem.W.specialIn K (.ref S) "__getattribute__" = some (some (.builtin "type.__getattribute__")))
    (vV : PySem.W.findCls K (.ref S) (.type "type") "__init__" = some (.val (.builtin "ValueError.__init__"))) : ErrI P w K mg base x f C := by
  have T : OexC K C := ⟨⟨nm, q, N, bs, _, sn, sub, ab, col, dd, k0, k1, k2, k3, k5, xL, rfl⟩, sa, exC, tyC, kC⟩
  exact ⟨g.ref, T, fI, _, iC, tI, Binds.all binds, init_ok S0 lk hcd (body S gS.ref ⟨rd, ga⟩ vV) fun a y H Q ea k => run a y H Q T no ea k⟩
theorem excC_mk {h : Heap} (X : K.In h) (G : h.Ns mainGlobals mg) {x : Str} {C : Addr} (a : PySem.W.nsIn K mainGlobals x = some (some (.ref C))) (k : PySem.W.keepIn K (.ref C) = true)
    (e : PySem.W.excIn K C [.type "ValueError", .type "Exception", .type "BaseException", .type "object"] "ValueError.__new__" = true) (r : PySem.W.subIn K (.ref C) (.type "BaseException") = some true)
    (t : PySem.W.typeIn K (.ref C) = some (.type "type")) (i : PySem.W.isClsIn K C = true) (s : PySem.W.subIn K (.ref C) (.ref C) = some true) : ExcC K mg x C := ⟨PySem.W.mg_of X G a, k, e, r, t, exm_own r i t s⟩
theorem cls_mk {h : Heap} (X : K.In h) (G : h.Ns mainGlobals mg) {x : Str} {C : Addr} (a : PySem.W.nsIn K mainGlobals x = some (some (.ref C))) : GV mg x (.ref C) := ⟨_, PySem.W.mg_of X G a, rfl⟩
end
end Hz

namespace Hz
open PySem PySem.Spec PyProof.Rows L2 RZ
def topS (i : Nat) : Stmt := PySem.Challenge.pw_stickyheads_k39_errors_of_observations.main.body.getD i (.Pass ⟨0, 0, 0, 0⟩)
abbrev s_is_integer : Stmt := topS 22
theorem sc_is_integer : FnScope ["value"] ["value"] (defScope s_is_integer) := ⟨rfl, rfl, rfl, by decide +kernel, rfl, by decide +kernel, by decide +kernel⟩
abbrev s_is_outline : Stmt := topS 23
theorem sc_is_outline : FnScope ["value", "before", "depth"] ["value"] (defScope s_is_outline) := ⟨rfl, rfl, rfl, by decide +kernel, rfl, by decide +kernel, by decide +kernel⟩
abbrev s_check_outline : Stmt := topS 24
theorem sc_check_outline : FnScope ["outline"] ["outline"] (defScope s_check_outline) := ⟨rfl, rfl, rfl, by decide +kernel, rfl, by decide +kernel, by decide +kernel⟩
abbrev s_stops_of : Stmt := topS 25
theorem sc_stops_of : FnScope ["outline", "line", "depth"] ["outline"] (defScope s_stops_of) := ⟨rfl, rfl, rfl, by decide +kernel, rfl, by decide +kernel, by decide +kernel⟩
abbrev s_is_observation : Stmt := topS 29
theorem sc_is_observation : FnScope ["value"] ["value"] (defScope s_is_observation) := ⟨rfl, rfl, rfl, by decide +kernel, rfl, by decide +kernel, by decide +kernel⟩
abbrev s_check_observations : Stmt := topS 30
theorem sc_check_observations : FnScope ["observations", "index", "item"] ["observations"] (defScope s_check_observations) := ⟨rfl, rfl, rfl, by decide +kernel, rfl, by decide +kernel, by decide +kernel⟩
abbrev s_check_lines : Stmt := topS 31
theorem sc_check_lines : FnScope ["lines"] ["lines"] (defScope s_check_lines) := ⟨rfl, rfl, rfl, by decide +kernel, rfl, by decide +kernel, by decide +kernel⟩
abbrev s_fits : Stmt := topS 32
theorem sc_fits : FnScope ["outline", "observations", "stops", "scroll", "line"] ["outline", "observations"] (defScope s_fits) := ⟨rfl, rfl, rfl, by decide +kernel, rfl, by decide +kernel, by decide +kernel⟩
abbrev s_limits_of : Stmt := topS 33
theorem sc_limits_of : FnScope ["lines", "observations", "least", "greatest", "scroll", "line"] ["lines", "observations"] (defScope s_limits_of) := ⟨rfl, rfl, rfl, by decide +kernel, rfl, by decide +kernel, by decide +kernel⟩
abbrev s_bounds_of : Stmt := topS 34
theorem sc_bounds_of : FnScope ["lines", "observations", "limits", "least", "greatest", "line", "found", "low", "high"] ["lines", "observations"] (defScope s_bounds_of) := ⟨rfl, rfl, rfl, by decide +kernel, rfl, by decide +kernel, by decide +kernel⟩
abbrev s_depth_bounds : Stmt := topS 35
theorem sc_depth_bounds : FnScope ["lines", "observations"] ["lines", "observations"] (defScope s_depth_bounds) := ⟨rfl, rfl, rfl, by decide +kernel, rfl, by decide +kernel, by decide +kernel⟩
abbrev s_conflict : Stmt := topS 36
theorem sc_conflict : FnScope ["lines", "observations", "one", "first", "other"] ["lines", "observations"] (defScope s_conflict) := ⟨rfl, rfl, rfl, by decide +kernel, rfl, by decide +kernel, by decide +kernel⟩
abbrev s_sums_on : Stmt := topS 37
theorem sc_sums_on : FnScope ["numbers", "found", "number"] ["numbers"] (defScope s_sums_on) := ⟨rfl, rfl, rfl, by decide +kernel, rfl, by decide +kernel, by decide +kernel⟩
abbrev s_count_fitting : Stmt := topS 38
theorem sc_count_fitting : FnScope ["lines", "observations", "limits", "least", "greatest", "counts", "line", "sums", "depth"] ["lines", "observations"] (defScope s_count_fitting) := ⟨rfl, rfl, rfl, by decide +kernel, rfl, by decide +kernel, by decide +kernel⟩
abbrev s_law_bag : Stmt := topS 40
theorem sc_law_bag : FnScope ["cell", "turn", "size"] ["cell", "turn"] (defScope s_law_bag) := ⟨rfl, rfl, rfl, by decide +kernel, rfl, by decide +kernel, by decide +kernel⟩
abbrev s_law_draw : Stmt := topS 41
theorem sc_law_draw : FnScope ["bag", "many", "found", "mixed"] ["bag", "many"] (defScope s_law_draw) := ⟨rfl, rfl, rfl, by decide +kernel, rfl, by decide +kernel, by decide +kernel⟩
abbrev s_law_cells : Stmt := topS 42
theorem sc_law_cells : FnScope ["script"] ["script"] (defScope s_law_cells) := ⟨rfl, rfl, rfl, by decide +kernel, rfl, by decide +kernel, by decide +kernel⟩
abbrev s_law_rising : Stmt := topS 43
theorem sc_law_rising : FnScope ["bag", "most", "style", "many", "found", "turn", "top", "some"] ["bag", "most"] (defScope s_law_rising) := ⟨rfl, rfl, rfl, by decide +kernel, rfl, by decide +kernel, by decide +kernel⟩
abbrev s_law_sized : Stmt := topS 44
theorem sc_law_sized : FnScope ["script", "bag", "small", "great"] ["script", "bag", "small", "great"] (defScope s_law_sized) := ⟨rfl, rfl, rfl, by decide +kernel, rfl, by decide +kernel, by decide +kernel⟩
abbrev s_law_first_line : Stmt := topS 45
theorem sc_law_first_line : FnScope ["depths", "scroll", "spot", "deep"] ["depths", "scroll"] (defScope s_law_first_line) := ⟨rfl, rfl, rfl, by decide +kernel, rfl, by decide +kernel, by decide +kernel⟩
abbrev s_law_watched : Stmt := topS 46
theorem sc_law_watched : FnScope ["bag", "depths", "many", "found", "last", "odds", "turn", "scroll", "spot"] ["bag", "depths", "many"] (defScope s_law_watched) := ⟨rfl, rfl, rfl, by decide +kernel, rfl, by decide +kernel, by decide +kernel⟩
abbrev s_law_no_outline : Stmt := topS 47
theorem sc_law_no_outline : FnScope ["bag", "depths", "at", "odd", "some"] ["bag", "depths"] (defScope s_law_no_outline) := ⟨rfl, rfl, rfl, by decide +kernel, rfl, by decide +kernel, by decide +kernel⟩
abbrev s_law_no_seen : Stmt := topS 48
theorem sc_law_no_seen : FnScope ["bag", "seen", "at", "one", "odd", "more", "room", "whole"] ["bag", "seen"] (defScope s_law_no_seen) := ⟨rfl, rfl, rfl, by decide +kernel, rfl, by decide +kernel, by decide +kernel⟩
abbrev s_law_kind : Stmt := topS 49
theorem sc_law_kind : FnScope ["caught", "odd", "some"] ["caught"] (defScope s_law_kind) := ⟨rfl, rfl, rfl, by decide +kernel, rfl, by decide +kernel, by decide +kernel⟩
abbrev s_law_error : Stmt := topS 50
theorem sc_law_error : FnScope ["door", "one", "two", "caught", "e"] ["door", "one", "two"] (defScope s_law_error) := ⟨rfl, rfl, rfl, by decide +kernel, rfl, by decide +kernel, by decide +kernel⟩
abbrev s_law_right : Stmt := topS 51
theorem sc_law_right : FnScope ["script", "bag", "depths", "seen", "turn", "wrong", "at", "number", "bad", "kept", "door", "good", "odd", "due", "found"] ["script", "bag"] (defScope s_law_right) := ⟨rfl, rfl, rfl, by decide +kernel, rfl, by decide +kernel, by decide +kernel⟩
abbrev s_law : Stmt := topS 52
theorem sc_law : FnScope ["script", "k", "cell"] ["script"] (defScope s_law) := ⟨rfl, rfl, rfl, by decide +kernel, rfl, by decide +kernel, by decide +kernel⟩
/-! the steps -/
local macro_rules | `(tactic| walk_at "pk") => `(tactic| first | exact Pick.head | (apply Pick.tail; walk_at "pk") | (apply Pick.app; walk_at "pk") | assumption)
local macro_rules | `(tactic| walk_at "mb") => `(tactic| first | assumption | exact List.mem_cons_self | (apply List.mem_cons_of_mem; walk_at "mb") | (apply List.mem_append_right; walk_at "mb") | (exact Pick.mem (by assumption)))
local macro_rules | `(tactic| walk_at "sa") => `(tactic| first | exact SetAt.zero | (apply SetAt.succ; walk_at "sa"))
local macro_rules | `(tactic| walk_at "ga") => `(tactic| first | exact GetAt.zero | (apply GetAt.succ; walk_at "ga"))
local macro_rules | `(tactic| walk_at "sb") => `(tactic| first | exact Sub.refl | ((fail_if_success apply Sub.take); first | (apply Sub.keep; walk_at "sb") | (apply Sub.drop; walk_at "sb") | (apply Sub.app; walk_at "sb")) | (apply Sub.take; (walk_at "pk"); (walk_at "sb")))
local macro_rules | `(tactic| walk_at "pre") => `(tactic| first | exact Pre.nil | (apply Pre.cons; walk_at "pre") | (apply Pre.app; walk_at "pre"))
local macro_rules | `(tactic| walk_at "ty") => `(tactic| first | assumption | exact HasTy.non | exact HasTy.bl _ | exact HasTy.int _ | exact HasTy.str _ | (apply HasTy.lst; walk_at "mb") | (apply HasTy.tup; walk_at "mb") | (apply HasTy.dct; walk_at "mb"))
local macro_rules | `(tactic| walk_at "hx") => `(tactic| first
  | ((with_reducible refine' t_is ?ty ?mem ?_); (case ty => walk_at "ty"); (case mem => decide)))
local macro_rules | `(tactic| walk_at "sz") => `(tactic| first | (with_unfolding_all decide) | (rw [sizeLine_eq]; omega) | (simp only [sizeLine_eq, List.length_append, List.length_map, List.length_cons, List.length_nil, List.length_replicate, List.length_take, List.length_drop, List.length_reverse]; omega))
local macro_rules | `(tactic| walk_at "hz") => `(tactic| first
  | (with_reducible refine t_seq ?_)
  | (with_reducible refine t_asg ?_)
  | (with_reducible refine t_whBT ?_) | (with_reducible refine t_whBF ?_) | (with_reducible refine t_nxP ?_) | (with_reducible refine t_nxW ?_) | (with_reducible refine t_ctP ?_) | (with_reducible refine t_ctW ?_)
  | ((with_reducible refine' t_varA ?ga ?_); (case ga => walk_at "ga"))
  | (with_reducible refine t_c ?_)
  | ((with_reducible refine' t_name ?sa ?_); (case sa => walk_at "sa"))
  | (with_reducible refine t_op ?_)
  | (with_reducible refine t_rI0 ?_)
  | (with_reducible refine t_rU ?_)
  | (with_reducible refine t_eqI ?_)
  | (with_reducible refine t_neI ?_)
  | (with_reducible refine t_cons ?_)
  | (with_reducible refine t_nil ?_)
  | ((with_reducible refine t_dnewK ?_); intro)
  | (with_reducible refine t_callS ?_) | (with_reducible refine t_callGK ?_)
  | (with_reducible refine t_CB ?_)
  | (with_reducible refine t_if ?_)
  | (with_reducible refine t_test ?_)
  | (with_reducible refine t_bl ?_)
  | (with_reducible refine t_iteT ?_)
  | (with_reducible refine t_iteF ?_)
  | (with_reducible refine t_lst ?_)
  | (with_reducible refine t_tup ?_)
  | ((with_reducible refine t_newL ?sz ?_); (case sz => walk_at "sz"); intro)
  | ((with_reducible refine t_newT ?sz ?_); (case sz => walk_at "sz"); intro)
  | (with_reducible refine t_un ?_)
  | (with_reducible refine t_B ?_)
  | (with_reducible refine t_and ?_)
  | (with_reducible refine t_or ?_)
  | (with_reducible refine t_not ?_)
  | (with_reducible refine t_andV ?_)
  | (with_reducible refine t_orV ?_)
  | (with_reducible refine t_notV ?_)
  | (with_reducible refine t_ifE ?_)
  | (with_reducible refine t_chain ?_)
  | (with_reducible refine t_ret ?_)
  | (with_reducible refine t_retN ?_)
  | (with_reducible refine t_drop ?_)
  | (with_reducible refine t_for ?_)
  | (with_reducible refine t_lc ?_)
  | (with_reducible refine t_next ?_)
  | (with_reducible refine t_BM ?_)
  | (with_reducible refine t_BM0 ?_)
  | ((with_reducible refine' t_tyL ?pk ?_); (case pk => walk_at "pk"))
  | (with_reducible refine t_tyS ?_)
  | ((with_reducible refine' t_ixI ?pk ?sd ?sd2 ?_); (case pk => walk_at "pk"); (case sd => omega); (case sd2 => omega))
  | ((with_reducible refine' t_ixL ?pk ?at_ ?_); (case pk => walk_at "pk"); (case at_ => walk_at "at"))
  | ((with_reducible refine' t_ixT ?pk ?at_ ?_); (case pk => walk_at "pk"); (case at_ => walk_at "at"))
  | ((with_reducible refine' t_appI ?pk ?sz ?_); (case pk => walk_at "pk"); (case sz => walk_at "sz"))
  | ((with_reducible refine' t_append ?pk ?sz ?_); (case pk => walk_at "pk"); (case sz => walk_at "sz"))
  | ((with_reducible refine' t_reverse ?pk ?_); (case pk => walk_at "pk"))
  | ((with_reducible refine' t_extend ?pk ?pk2 ?sz ?_); (case pk => walk_at "pk"); (case pk2 => walk_at "pk"); (case sz => walk_at "sz"))
  | (with_reducible refine t_slice ?_)
  | (with_reducible refine t_noPart ?_)
  | (with_reducible refine t_part ?_)
  | (with_reducible refine t_int ?_)
  | ((with_reducible refine' t_slI ?pk ?_); (case pk => walk_at "pk"); intro)
  | ((with_reducible refine' t_slL ?pk ?_); (case pk => walk_at "pk"); intro)
  | ((with_reducible refine' t_catI ?pk ?pk2 ?sz ?_); (case pk => walk_at "pk"); (case pk2 => walk_at "pk"); (case sz => walk_at "sz"); intro)
  | ((with_reducible refine' t_cat ?pk ?pk2 ?sz ?_); (case pk => walk_at "pk"); (case pk2 => walk_at "pk"); (case sz => walk_at "sz"); intro)
  | ((with_reducible refine' t_augA ?ga ?_); (case ga => walk_at "ga"))
  | (with_reducible refine t_ipI ?_)
  | (with_reducible refine t_par ?_)
  | (with_reducible refine t_two ?_)
  | (with_reducible refine t_sub ?_) | (with_reducible refine t_gSl ?_)
  | ((with_reducible refine' t_setAll ?pk ?pk2 ?sz ?_); (case pk => walk_at "pk"); (case pk2 => walk_at "pk"); (case sz => walk_at "sz"))
  | ((with_reducible refine' t_tupG ?pk ?n ?_); (case pk => walk_at "pk"); (case n => rfl))
  | ((with_reducible refine' t_lstG ?pk ?n ?_); (case pk => walk_at "pk"); (case n => rfl))
  | (with_reducible refine t_consG ?_)
  | (with_reducible refine t_nilG ?_)
  | (with_reducible refine t_isN ?_)
  | (with_reducible refine t_notN ?_)
  | (with_reducible refine t_eqB ?_)
  | (with_reducible refine t_eqS ?_)
  | (with_reducible refine t_neB ?_)
  | (with_reducible refine t_neS ?_)
  | (with_reducible refine t_iL ?_) | (with_reducible refine t_iT ?_) | (with_reducible refine t_iR1 ?_) | (with_reducible refine t_iR2 ?_) | (with_reducible refine t_iR3 ?_)
  | (with_reducible refine t_iZA ?_) | (with_reducible refine t_iE ?_) | (with_reducible refine t_iZ ?_) | (with_reducible refine t_iS ?_)
  | ((with_reducible refine' t_itL ?pk ?_); (case pk => walk_at "pk"))
  | ((with_reducible refine' t_itT ?pk ?_); (case pk => walk_at "pk"))
  | ((with_reducible refine' t_itE ?pk ?_); (case pk => walk_at "pk"))
  | ((with_reducible refine' t_itZ ?pk ?pk2 ?_); (case pk => walk_at "pk"); (case pk2 => walk_at "pk"))
  | ((with_reducible refine' t_itZL ?pk ?pk2 ?_); (case pk => walk_at "pk"); (case pk2 => walk_at "pk"))
  | (with_reducible refine t_itS ?_)
  | ((with_reducible refine t_wiped ?w ?_); (case w => rfl))
  | (with_reducible refine t_yes ?_)
  | ((with_reducible refine' t_rep ?pk ?sd ?sd2 ?sz ?_); (case pk => walk_at "pk"); (case sd => decide); (case sd2 => decide); (case sz => walk_at "sz"); intro)
  | ((with_reducible refine' t_lenI ?pk ?_); (case pk => walk_at "pk"))
  | ((with_reducible refine' t_lenL ?pk ?_); (case pk => walk_at "pk"))
  | ((with_reducible refine' t_lenT ?pk ?_); (case pk => walk_at "pk"))
  | ((with_reducible refine t_rI ?sd ?_); (case sd => walk_at "sd"))
  | (with_reducible refine t_max2 ?_) | (with_reducible refine t_min2 ?_)
  | (with_reducible refine t_intI ?_) | (with_reducible refine t_intB ?_)
  | ((with_reducible refine t_itR1 ?sd ?sd2 ?_); (case sd => walk_at "sd"); (case sd2 => walk_at "sd"))
  | ((with_reducible refine t_itR2 ?sd ?_); (case sd => walk_at "sd"))
  | (with_reducible refine t_lstRg ?_) | (with_reducible refine t_rg1 ?_) | (with_reducible refine t_rg2 ?_) | (with_reducible refine t_int2 ?_)
  | ((with_reducible refine t_rgI ?sd ?_); (case sd => walk_at "sd"); intro)
  | ((with_reducible refine t_newRg ?sd ?_); (case sd => walk_at "sd"); intro)
  | (with_reducible refine t_revL ?_)
  | ((with_reducible refine' t_revI ?pk ?_); (case pk => walk_at "pk"); intro)
  | ((with_reducible refine' t_newRev ?pk ?_); (case pk => walk_at "pk"); intro)
  | (with_reducible refine t_isB ?_) | (with_reducible refine t_notB ?_)
  | ((with_reducible refine' t_listL ?pk ?_); (case pk => walk_at "pk"); intro)
  | ((with_reducible refine' t_listT ?pk ?_); (case pk => walk_at "pk"); intro)
  | ((with_reducible refine' t_tupleL ?pk ?_); (case pk => walk_at "pk"); intro)
  | ((with_reducible refine' t_inI ?pk ?_); (case pk => walk_at "pk"))
  | ((with_reducible refine' t_notInI ?pk ?_); (case pk => walk_at "pk"))
  | ((with_reducible refine t_ifT ?h ?_); (case h => first | decide | rfl))
  | ((with_reducible refine t_ifF ?h ?_); (case h => first | decide | rfl))
  | (with_reducible refine t_sortSet ?_) | (with_reducible refine t_lenSetV ?_)
  | (with_reducible refine t_ifR ?_) | (with_reducible refine t_ifNR ?_)
  | ((with_reducible refine t_ifDT ?h ?_); (case h => omega)) | ((with_reducible refine t_ifDF ?h ?_); (case h => omega))
  | ((with_reducible refine t_ifNT ?h ?_); (case h => omega)) | ((with_reducible refine t_ifNF ?h ?_); (case h => omega)))
local macro_rules | `(tactic| walk_at "sd") => `(tactic| first | omega | assumption | (exact .inl (by omega)) | (exact .inr (.inl (by omega))) | (refine And.intro ?_ ?_ <;> omega) | decide | (exact ⟨by omega, by omega, by omega, by omega⟩) | (exact RgOk.of_le (by omega) (by omega) (by omega) (by omega)))
local macro_rules | `(tactic| walk_at "at") => `(tactic| first | rfl | exact atI_nat (by assumption) | exact atI_nat rfl)
local macro_rules | `(tactic| walk_at "hz") => `(tactic| first
  | (with_reducible refine t_dc ?_) | (with_reducible refine t_din ?_) | (with_reducible refine t_dnin ?_) | (with_reducible refine t_dix ?_) | (with_reducible refine t_dg1 ?_) | (with_reducible refine t_dput ?_)
  | ((with_reducible refine' t_isDk ?pk ?_); (case pk => walk_at "pk"))
  | ((with_reducible refine' t_dinK ?pk ?_); (case pk => walk_at "pk"))
  | ((with_reducible refine' t_dninK ?pk ?_); (case pk => walk_at "pk"))
  | ((with_reducible refine' t_dgetK ?pk ?_); (case pk => walk_at "pk"))
  | ((with_reducible refine' t_dputK ?pk ?sz ?_); (case pk => walk_at "pk"); (case sz => walk_at "sz"))
  | ((with_reducible refine t_dnewT ?_); intro))
local macro_rules | `(tactic| walk_at "hz") => `(tactic| first
  | (with_reducible refine t_rev2L ?_)
  | ((with_reducible refine' t_newRev2 ?pk ?_); (case pk => walk_at "pk"); intro))
local macro_rules | `(tactic| walk_at "hz") => `(tactic| first
  | (with_reducible refine t_tZipL ?_))
local macro_rules | `(tactic| walk_at "er") => `(tactic| first | assumption | (refine' Er.two ?m1 ?m2; (case m1 => walk_at "mb"); (case m2 => walk_at "mb")) | (refine' Er.one ?m1; (case m1 => walk_at "mb")))
local macro_rules | `(tactic| walk_at "ka") => `(tactic| first
  | exact kitAny_nil
  | (refine' kitAny_cons ?e ?f ?g; (case e => with_reducible assumption); (case g => exact fun z => nomatch z); (case f => intro _; walk_at "ka"))
  | (refine' kitAny_cons ?e ?f ?g; (case e => with_reducible assumption); (case f => exact fun z => nomatch z); (case g => exact fun _ => rfl)))
local macro_rules | `(tactic| walk_at "hz") => `(tactic| first
  | ((with_reducible refine' t_isE ?er ?T ?e ?_); (case er => walk_at "er"); (case T => assumption); (case e => with_reducible assumption))
  | ((with_reducible refine' t_isEB ?er ?T ?e ?_); (case er => walk_at "er"); (case T => assumption); (case e => with_reducible assumption))
  | ((with_reducible refine' t_isET ?er ?T ?pk ?c ?e ?_); (case er => walk_at "er"); (case T => assumption); (case pk => walk_at "pk"); (case c => rfl); (case e => simp only [List.map, clsOf]; walk_at "ka"))
  | (with_reducible refine t_exA0 ?_)
  | ((with_reducible refine' t_exA ?pk ?pk2 ?T ?no ?lk ?_); (case pk => walk_at "pk"); (case pk2 => walk_at "pk"); (case T => assumption); (case no => with_reducible assumption); (case lk => rfl))
  | (with_reducible refine t_rz ?_) | (with_reducible refine t_err ?_)
  | ((with_reducible refine t_rErr ?_); intro)
  | ((with_reducible refine t_reprInt ?sd ?sd2 ?_); (case sd => omega); (case sd2 => omega))
  | ((with_reducible refine t_strI ?h ?_); (case h => exact str_ok (by omega) (by omega)))
  | ((with_reducible refine' t_gone ?w ?_); (case w => rfl)) | (with_reducible refine t_goneR ?_)
  | (with_reducible refine t_callV ?_))
section
variable {P : Program} {w : World} {K : PySem.W.Frag} {mg : Str → Option Value} {base : Heap}
/-! ### is_integer, is_outline, check_outline -/
def isInt : V → Bool
  | .int _ => true
  | _ => false
def chainV : Int → List V → Bool
  | _, [] => true
  | b, .int d :: r => decide (0 ≤ d) && decide (d ≤ b + 1) && chainV d r
  | _, _ :: _ => false
/-- the list is an outline -/
def outV (xs : List V) : Bool := decide (1 ≤ xs.length) && decide (xs.length ≤ 200) && chainV (-1) xs
def sp_is_integer : Sp := fun vs H Q _ => ∃ (x : V) (T : String) (L : Lg), vs = [x] ∧ Led H L ∧ HasTy L x T ∧ Tr L (fun H => Q (.bl (isInt x)) H)
theorem use_is_integer {L : Lg} {Q : VK} {E : XK} {x : V} {T : String} (h : HasTy L x T) (k : Tr L fun H => Q (.bl (isInt x)) H) : Tr L fun H => sp_is_integer [x] H Q E := fun H l => ⟨x, T, L, rfl, l, h, k⟩
theorem isInt_isB {L : Lg} {x : V} {T : String} (h : HasTy L x T) : (isB T "int" && !isB T "bool") = isInt x := by cases h <;> rfl
theorem ok_is_integer (D : Df K mg "is_integer" s_is_integer) (B : Blt mg) : Ok P w K mg base CX0 1 "is_integer" ["value"] sp_is_integer := by
  obtain ⟨f, fd, hm, F⟩ := D
  refine ⟨f, fd, hm, F.kp, F.binds (fun _ _ _ _ _ _ us hl => match us, hl with | [_], _ => rfl), FunOkG F sc_is_integer (fun vs H Q E h => ?_) (fun cdv A outer s H vs Q E hr h => ?_), F.lk⟩
  · obtain ⟨x, T, L, rfl, _⟩ := h; rfl
  · obtain ⟨x, T, L, rfl, l, ht, q⟩ := h
    refine ⟨_, PSs.nox (pss_one (ps_ret (pe_and (pe_callB c_is rfl B.isinstance_ boot_isinstance (pa_cons (pv 0) (pa_cons (pe_ty B.int_ boot_int) pa_nil))) (pe_one (pe_not (pe_callB c_is rfl B.isinstance_ boot_isinstance (pa_cons (pv 0) (pa_cons (pe_ty B.bool_ boot_bool) pa_nil)))))))), ?_⟩
    rw [show L2.start ["value"] [x] = [some x] from rfl]
    refine Tr.of (L := L) ?_ l
    repeat walk_at "hz"
    refine t_is ht (by decide) ?_
    repeat walk_at "hz"
    have e := isInt_isB ht
    refine t_ite (fun h1 => ?_) fun h1 => ?_
    · repeat walk_at "hz"
      refine t_is ht (by decide) ?_
      repeat walk_at "hz"
      rw [h1, Bool.true_and] at e
      rw [e]
      exact q
    · repeat walk_at "hz"
      rw [h1, Bool.false_and] at e
      rw [e]
      exact q
/-- what is_outline answers -/
def OutIs (L : Lg) (x : V) (b : Bool) : Prop := (∃ a xs, x = .ref a ∧ (a, .lst xs) ∈ L ∧ (∀ y ∈ xs, ∃ T, HasTy L y T) ∧ b = outV xs) ∨ (∃ T, HasTy L x T ∧ T ≠ "list" ∧ b = false)
def sp_is_outline : Sp := fun vs H Q _ => ∃ (x : V) (b : Bool) (L : Lg), vs = [x] ∧ Led H L ∧ OutIs L x b ∧ Tr L (fun H => Q (.bl b) H)
theorem use_is_outline {L : Lg} {Q : VK} {E : XK} {x : V} {b : Bool} (h : OutIs L x b) (k : Tr L fun H => Q (.bl b) H) : Tr L fun H => sp_is_outline [x] H Q E := fun H l => ⟨x, b, L, rfl, l, h, k⟩
theorem chainV_not {b : Int} {v : V} {r : List V} (h : isInt v = false) : chainV b (v :: r) = false := by
  cases v <;> first | rfl | cases h
theorem drop_cons {α : Type} {xs : List α} {i : Nat} {v : α} (h : xs[i]? = some v) : xs.drop i = v :: xs.drop (i + 1) := by
  obtain ⟨h1, h2⟩ := List.getElem?_eq_some_iff.mp h
  rw [List.drop_eq_getElem_cons h1, h2]
theorem isB_list {T : String} (h : T ∈ tyNames) (n : T ≠ "list") : isB T "list" = false := by
  unfold isB
  simp [n]
theorem ok_is_outline (D : Df K mg "is_outline" s_is_outline) (B : Blt mg) (g_MAX_LINES : GV mg "MAX_LINES" (.int 200)) (k_is_integer : Ok P w K mg base CX0 1 "is_integer" ["value"] sp_is_integer) :
    Ok P w K mg base CX0 2 "is_outline" ["value"] sp_is_outline := by
  obtain ⟨f, fd, hm, F⟩ := D
  refine ⟨f, fd, hm, F.kp, F.binds (fun _ _ _ _ _ _ us hl => match us, hl with | [_], _ => rfl), FunOkG F sc_is_outline (fun vs H Q E h => ?_) (fun cdv A outer s H vs Q E hr h => ?_), F.lk⟩
  · obtain ⟨x, T, L, rfl, _⟩ := h; rfl
  · obtain ⟨x, b, L, rfl, l, ho, q⟩ := h
    refine ⟨_, PSs.nox (pss_cons (ps_if (PW.pt (pw_or (pt_not (pt_val (pe_callB c_is rfl B.isinstance_ boot_isinstance (pa_cons (pv 0) (pa_cons (pe_ty B.list_ boot_list) pa_nil))))) (pw_or1 (pt_not (pt_chain op_le op_le pe_int (pe_callB c_len rfl B.len_ boot_len (pa_cons (pv 0) pa_nil)) (pe_gv g_MAX_LINES)))))) (pss_one (ps_ret pe_bl))
        pss_nil)
      (pss_cons (ps_set (i := 1) sc_is_outline.nd rfl (.inl rfl) (pe_un un_neg pe_int))
      (pss_cons (ps_for PassesOwn.never rfl (pi_list (pv 0)) (pg_name (i := 2) sc_is_outline.nd rfl (.inl rfl))
        (pss_cons (ps_if (PW.pt (pw_or (pt_not (pt_val (pe_callG k_is_integer (hr.mono (by omega)) pas0 (pa_cons (pv 2) pa_nil)))) (pw_or1 (pt_not (pt_chain op_le op_le pe_int (pv 2) (pe_op op_add (pv 1) pe_int)))))) (pss_one (ps_ret pe_bl))
        pss_nil)
      (pss_one (ps_set (i := 1) sc_is_outline.nd rfl (.inl rfl) (pv 2)))))
      (pss_one (ps_ret pe_bl))))), ?_⟩
    rw [show L2.start ["value", "before", "depth"] [x] = [some x, none, none] from rfl]
    refine Tr.of (L := L) ?_ l
    repeat walk_at "hz"
    rcases ho with ⟨a, xs, rfl, hm, hty, rfl⟩ | ⟨T, ht, hn, rfl⟩
    · refine t_is (.lst hm) (by decide) ?_
      obtain ⟨R, hp⟩ := Pick.of_mem hm
      repeat walk_at "hz"
      refine t_iteD (fun h1 => ?_) fun h1 => ?_
      · repeat walk_at "hz"
        refine t_iteND (fun h2 => ?_) fun h2 => ?_
        · repeat walk_at "hz"
          rw [show outV xs = false by unfold outV; rw [show decide (xs.length ≤ 200) = false from decide_eq_false (by omega), Bool.and_false, Bool.false_and]] at q
          exact q
        · repeat walk_at "hz"
          refine t_forK wk_list (fun i y => [some (.ref a), some (.int y.1), y.2]) (fun _ _ => L) (fun i y => chainV (-1) xs = chainV y.1 (xs.drop i)) ⟨((-1 : Int), none), rfl, rfl, .refl⟩ (fun _ _ _ => ⟨R, hp⟩) ?_ ?_
          · rintro i ⟨b, d⟩ v L' hi hc ⟨hv, rfl⟩
            dsimp only at hc ⊢
            rw [drop_cons hv] at hc
            obtain ⟨T, ht⟩ := hty v (List.mem_of_getElem? hv)
            show Tr L _
            repeat walk_at "hz"
            refine use_is_integer ht ?_
            repeat walk_at "hz"
            refine t_ite (fun h3 => ?_) fun h3 => ?_
            · repeat walk_at "hz"
              rw [show outV xs = false by unfold outV; rw [hc, chainV_not (by simpa using h3), Bool.and_false]] at q
              exact q
            · have h4 : isInt v = true := by simpa using h3
              obtain ⟨m, rfl⟩ : ∃ m, v = .int m := by
                cases v <;> first | exact ⟨_, rfl⟩ | cases h4
              repeat walk_at "hz"
              refine t_iteD (fun h5 => ?_) fun h5 => ?_
              · repeat walk_at "hz"
                refine t_iteND (fun h6 => ?_) fun h6 => ?_
                · repeat walk_at "hz"
                  rw [show outV xs = false by unfold outV; rw [hc, chainV, decide_eq_false h6, Bool.and_false, Bool.false_and, Bool.and_false]] at q
                  exact q
                · repeat walk_at "hz"
                  refine t_pst (m, some (V.int m)) ?_ (by rfl) (by walk_at "sb")
                  rw [hc, chainV, decide_eq_true h5, decide_eq_true h6]; rfl
              · repeat walk_at "hz"
                rw [show outV xs = false by unfold outV; rw [hc, chainV, decide_eq_false h5, Bool.false_and, Bool.false_and, Bool.and_false]] at q
                exact q
          · rintro ⟨b, d⟩ hc
            repeat walk_at "hz"
            rw [List.drop_length] at hc
            rw [show outV xs = true by unfold outV; rw [hc, decide_eq_true (by omega), decide_eq_true (by omega)]; rfl] at q
            exact q
      · repeat walk_at "hz"
        rw [show outV xs = false by unfold outV; rw [show decide (1 ≤ xs.length) = false from decide_eq_false (by omega), Bool.false_and, Bool.false_and]] at q
        exact q
    · refine t_is ht (by decide) ?_
      rw [isB_list ht.name hn]
      repeat walk_at "hz"
      exact q
theorem chainV_ints : ∀ (b : Int) (ns : List Int), chainV b (ns.map V.int) = true ↔ chainI b ns
  | _, [] => by simp [chainV, chainI]
  | b, d :: r => by
    show (decide (0 ≤ d) && decide (d ≤ b + 1) && chainV d (r.map V.int)) = true ↔ (0 ≤ d ∧ d ≤ b + 1 ∧ chainI d r)
    rw [Bool.and_eq_true, Bool.and_eq_true, chainV_ints d r, decide_eq_true_eq, decide_eq_true_eq, and_assoc]
/-- the depths of an outline -/
def Outline (ns : List Int) : Prop := outV (ns.map V.int) = true
theorem outline_iff {ns : List Int} : Outline ns ↔ 1 ≤ ns.length ∧ ns.length ≤ 200 ∧ chainI (-1) ns := by
  unfold Outline outV
  rw [List.length_map, Bool.and_eq_true, Bool.and_eq_true, chainV_ints, decide_eq_true_eq, decide_eq_true_eq, and_assoc]
theorem Outline.chain {ns : List Int} (h : Outline ns) : chainI (-1) ns := (outline_iff.mp h).2.2
theorem Outline.len {ns : List Int} (h : Outline ns) : 1 ≤ ns.length ∧ ns.length ≤ 200 := ⟨(outline_iff.mp h).1, (outline_iff.mp h).2.1⟩
theorem Outline.bound {ns : List Int} (h : Outline ns) {i : Nat} {d : Int} (e : ns[i]? = some d) : 0 ≤ d ∧ d ≤ i := by
  have := chainI_bounds _ _ h.chain i d e
  omega
theorem Outline.small {ns : List Int} (h : Outline ns) : ∀ n ∈ ns, n.natAbs < 2 ^ 1000 := fun n hn => by
  obtain ⟨i, e⟩ := List.mem_iff_getElem?.mp hn
  have b := h.bound e
  have l := (List.getElem?_eq_some_iff.mp e).1
  have := h.len.2
  have z : (200 : Nat) < 2 ^ 1000 := by decide
  omega

/-! ### check_outline, raising; stops_of, stops -/
theorem outIs_ints {L : Lg} {a : Addr} {ns : List Int} (hm : (a, .lst (ns.map V.int)) ∈ L) : OutIs L (.ref a) (outV (ns.map V.int)) :=
  .inl ⟨a, _, rfl, hm, fun y hy => by obtain ⟨n, _, rfl⟩ := List.mem_map.mp hy; exact ⟨_, .int n⟩, rfl⟩
def sp_check_outline (C_InvalidOutlineError : Addr) : Sp := fun vs H Q E => ∃ (x : V) (b : Bool) (L : Lg), vs = [x] ∧ Led H (L) ∧ (OutIs L x b) ∧ ((b = true) → (Tr (L) (fun H => Q (.non) H))) ∧ ((b = false) → Tr (L) (fun H => E (.ref C_InvalidOutlineError) none H))
theorem use_check_outline {L : Lg} {Q : VK} {E : XK} {x : V} {b : Bool} (ho : OutIs L x b) (q : (b = true) → (Tr (L) (fun H => Q (.non) H))) (x0 : (b = false) → Tr (L) (fun H => E (.ref C_InvalidOutlineError) none H)) : Tr L fun H => sp_check_outline C_InvalidOutlineError [x] H Q E :=
  fun H l => ⟨x, b, L, rfl, l, ho, q, x0⟩

theorem ok_check_outline {C_InvalidOutlineError : Addr} (D : Df K mg "check_outline" s_check_outline) (B : Blt mg) (X_InvalidOutlineError : ExcC K mg "InvalidOutlineError" C_InvalidOutlineError) (k_is_outline : Ok P w K mg base CX0 2 "is_outline" ["value"] sp_is_outline) : Ok P w K mg base (L2N.CX P w) 3 "check_outline" ["outline"] (sp_check_outline C_InvalidOutlineError) := by
  obtain ⟨f, fd, hm, F⟩ := D
  refine ⟨f, fd, hm, F.kp, F.binds (fun _ _ _ _ _ _ us hl => match us, hl with | [_], _ => rfl), FunOkG F sc_check_outline (fun vs H Q E h => ?_) (fun cdv A outer s H vs Q E hr h => ?_), F.lk⟩
  · obtain ⟨_, _, _, rfl, _⟩ := h; rfl
  obtain ⟨x, b, L, rfl, l, ho, q, x0⟩ := h
  refine ⟨_, (pss_one (ps_if (pt_not (pt_val (pe_callG k_is_outline (hr.mono (by omega)) pas0 (pa_cons (pv 0) pa_nil)))) (pss_one (L2N.ps_raise rfl (L2N.takes_of rfl rfl rfl rfl) (pe_mk X_InvalidOutlineError)))
        pss_nil)), ?_⟩
  rw [show L2.start ["outline"] [x] = [some x] from rfl]
  refine Tr.of ?_ l
  repeat walk_at "hz"
  refine use_is_outline ho ?_
  repeat walk_at "hz"
  cases b with
  | true =>
    refine t_ifF rfl ?_
    repeat walk_at "hz"
    exact q rfl
  | false =>
    refine t_ifT rfl ?_
    repeat walk_at "hz"
    exact x0 rfl
/-- line minus depth -/
def stopsFrom : Int → List Int → List Int
  | _, [] => []
  | k, d :: r => (k - d) :: stopsFrom (k + 1) r
def stopsI (ns : List Int) : List Int := stopsFrom 0 ns
theorem stopsFrom_len : ∀ (k : Int) (ns : List Int), (stopsFrom k ns).length = ns.length
  | _, [] => rfl
  | k, d :: r => by rw [stopsFrom, List.length_cons, List.length_cons, stopsFrom_len]
theorem stopsFrom_get : ∀ (k : Int) (ns : List Int) (i : Nat) (d : Int), ns[i]? = some d → (stopsFrom k ns)[i]? = some (k + i - d)
  | k, d :: r, 0, e, h => by
    cases h
    show some (k - d) = some (k + ((0 : Nat) : Int) - d)
    congr 1; omega
  | k, d :: r, i + 1, e, h => by
    show (stopsFrom (k + 1) r)[i]? = _
    rw [stopsFrom_get (k + 1) r i e (by simpa using h)]
    congr 1; omega
theorem map_get {α β : Type} {f : α → β} {xs : List α} {i : Nat} {y : β} (h : (xs.map f)[i]? = some y) : ∃ x, xs[i]? = some x ∧ y = f x := by
  rw [List.getElem?_map] at h
  cases e : xs[i]? with
  | none => rw [e] at h; cases h
  | some x => rw [e] at h; cases h; exact ⟨x, rfl, rfl⟩
theorem get_map {α β : Type} (f : α → β) {xs : List α} {i : Nat} {x : α} (h : xs[i]? = some x) : (xs.map f)[i]? = some (f x) := by rw [List.getElem?_map, h]; rfl
def sp_stops_of : Sp := fun vs H Q _ => ∃ (a : Addr) (ns : List Int) (L : Lg), vs = [.ref a] ∧ Led H L ∧ (a, .lst (ns.map V.int)) ∈ L ∧ ns.length ≤ 1000 ∧ ∀ p, Tr ((p, .lst ((stopsI ns).map V.int)) :: L) (fun H => Q (.ref p) H)
theorem use_stops_of {L : Lg} {Q : VK} {E : XK} {a : Addr} {ns : List Int} (hm : (a, .lst (ns.map V.int)) ∈ L) (hz : ns.length ≤ 1000) (k : ∀ p, Tr ((p, .lst ((stopsI ns).map V.int)) :: L) fun H => Q (.ref p) H) : Tr L fun H => sp_stops_of [.ref a] H Q E :=
  fun H l => ⟨a, ns, L, rfl, l, hm, hz, k⟩
theorem ok_stops_of (D : Df K mg "stops_of" s_stops_of) (B : Blt mg) : Ok P w K mg base CX0 1 "stops_of" ["outline"] sp_stops_of := by
  obtain ⟨f, fd, hm, F⟩ := D
  refine ⟨f, fd, hm, F.kp, F.binds (fun _ _ _ _ _ _ us hl => match us, hl with | [_], _ => rfl), FunOkG F sc_stops_of (fun vs H Q E h => ?_) (fun cdv A outer s H vs Q E hr h => ?_), F.lk⟩
  · obtain ⟨a, ns, L, rfl, _⟩ := h; rfl
  · obtain ⟨a, ns, L, rfl, l, hm, hz, q⟩ := h
    refine ⟨_, PSs.nox (pss_one (ps_ret (pe_lc (own := [("line", 1), ("depth", 2)]) (g := gTup _ 2 (gCons (gName 1) (gCons (gName 2) (gNil)))) (by rfl) sc_stops_of.nd (pi_enum (by rfl) B.enumerate_ (pa_cons (pv 0) pa_nil)) (blkOk_by (own := [("line", 1), ("depth", 2)]) (N := ["outline", "line", "depth"]) (sc := defScope s_stops_of) (by decide +kernel)) (fun _ _ _ _ _ => (pg_tup rfl (pgs_cons (pg_name (i := 1) sc_stops_of.nd rfl (.inl rfl)) (pgs_cons (pg_name (i := 2) sc_stops_of.nd rfl (.inl rfl)) pgs_nil)))) (fun _ _ _ _ _ => pts_nil) (fun _ _ _ _ _ => (pe_op op_sub (pv 1) (pv 2)))))), ?_⟩
    rw [show L2.start ["outline", "line", "depth"] [.ref a] = [some (.ref a), none, none] from rfl]
    refine Tr.of (L := L) ?_ l
    obtain ⟨R, hp⟩ := Pick.of_mem hm
    repeat walk_at "hz"
    refine t_lcMap wk_enum (by rfl) ((stopsI ns).map V.int) (by rw [List.length_map, stopsI, stopsFrom_len, List.length_map]) (fun x => ⟨_, hp.tail⟩) ?_ q
    rintro D i v L' hi ⟨T, x, rfl, hx, rfl⟩
    obtain ⟨d, hd, rfl⟩ := map_get hx
    rw [List.cons_append, List.nil_append]
    repeat walk_at "hz"
    refine t_lcMp (by walk_at "pk") ?_ (by rw [List.length_map, stopsI, stopsFrom_len]; exact Nat.le_trans hz (by decide)) (by walk_at "sb")
    rw [List.getElem?_map, stopsI, stopsFrom_get 0 ns i d hd, Int.zero_add]; rfl

/-! ### headings, by the ints -/
def hbk (f : Int → Int) : Nat → Int → List Int
  | 0, _ => []
  | k + 1, d => if f (k : Nat) < d then ((k : Nat) : Int) :: hbk f k (f (k : Nat)) else hbk f k d
/-- the last place below k where f is e -/
def lastW (f : Int → Int) (e : Int) : Nat → Int
  | 0 => -1
  | k + 1 => if f (k : Nat) = e then ((k : Nat) : Int) else lastW f e k
structure Stp (f : Int → Int) (n : Nat) : Prop where
  zero : f 0 = 0
  nn : ∀ i : Nat, i < n → 0 ≤ f i
  up : ∀ i : Nat, i + 1 < n → f ((i + 1 : Nat) : Int) ≤ f i + 1
theorem hbk_eq {f : Int → Int} {n : Nat} (S : Stp f n) : ∀ (k : Nat) (d : Int), k ≤ n → 0 ≤ d → (k = 0 → d = 0) → (∀ j : Nat, k = j + 1 → d ≤ f j + 1) →
    hbk f k d = ((List.range d.toNat).map fun e => lastW f (e : Nat) k).reverse
  | 0, d, _, _, h0, _ => by rw [h0 rfl]; rfl
  | k + 1, d, hk, hd, _, h1 => by
    have b := h1 k rfl
    have nn := S.nn k (by omega)
    have up : ∀ j : Nat, k = j + 1 → f k ≤ f j + 1 := fun j e => by subst e; exact S.up j (by omega)
    have z : k = 0 → f k = 0 := fun e => by subst e; exact S.zero
    unfold hbk
    by_cases h : f k < d
    · rw [if_pos h, hbk_eq S k (f k) (by omega) nn z up]
      obtain rfl : d = f k + 1 := by omega
      rw [show (f k + 1).toNat = (f k).toNat + 1 by omega, List.range_succ, List.map_append, List.reverse_append]
      congr 1
      · simp only [List.map_cons, List.map_nil, List.reverse_cons, List.reverse_nil, List.nil_append, List.cons.injEq, and_true]
        unfold lastW
        rw [if_pos (by omega)]
      · congr 1
        refine List.map_congr_left fun e he => ?_
        have := List.mem_range.mp he
        rw [show lastW f e (k + 1) = lastW f e k by rw [lastW, if_neg (by omega)]]
    · rw [if_neg h, hbk_eq S k d (by omega) hd (fun e => by have := z e; omega) fun j e => by have := up j e; omega]
      congr 1
      refine List.map_congr_left fun e he => ?_
      have := List.mem_range.mp he
      rw [show lastW f e (k + 1) = lastW f e k by rw [lastW, if_neg (by omega)]]
theorem hbk_len (f : Int → Int) : ∀ (k : Nat) (d : Int), (hbk f k d).length ≤ k
  | 0, _ => Nat.le_refl 0
  | k + 1, d => by
    unfold hbk
    split
    · have := hbk_len f k (f k)
      rw [List.length_cons]; omega
    · have := hbk_len f k d
      omega
/-- the headings of the line i -/
def hdI (ns : List Int) (i : Int) : List Int := (hbk (atD ns) i.toNat (atD ns i)).reverse
theorem hdI_len (ns : List Int) (i : Int) : (hdI ns i).length ≤ i.toNat := by unfold hdI; rw [List.length_reverse]; exact hbk_len _ _ _
theorem chainI_stp : ∀ (b : Int) (ns : List Int), chainI b ns → ∀ i : Nat, i + 1 < ns.length → atD ns ((i + 1 : Nat) : Int) ≤ atD ns (i : Nat) + 1
  | b, d :: e :: r, h, 0, _ => by
    show e ≤ d + 1
    exact h.2.2.2.1
  | b, d :: r, h, i + 1, hi => by
    have := chainI_stp d r h.2.2 i (by simpa using hi)
    exact this
theorem Outline.at {ns : List Int} (h : Outline ns) {i : Int} (h0 : 0 ≤ i) (h1 : i < ns.length) : 0 ≤ atD ns i ∧ atD ns i ≤ i := by
  have := h.bound (atD_get h0 h1)
  omega
theorem Outline.stp {ns : List Int} (h : Outline ns) : Stp (atD ns) ns.length where
  zero := by have := h.at (i := 0) (by omega) (by have := h.len; omega); omega
  nn := fun i hi => (h.at (i := (i : Nat)) (by omega) (by omega)).1
  up := chainI_stp _ _ h.chain
theorem hdI_eq {ns : List Int} (h : Outline ns) {i : Int} (h0 : 0 ≤ i) (h1 : i < ns.length) : hdI ns i = (List.range (atD ns i).toNat).map fun e => lastW (atD ns) (e : Nat) i.toNat := by
  have a := h.at h0 h1
  have S := h.stp
  unfold hdI
  rw [hbk_eq S i.toNat (atD ns i) (by omega) a.1 (fun e => by omega) fun j e => by
    have := S.up j (by omega)
    rw [← e, Int.toNat_of_nonneg h0] at this
    exact this]
  rw [List.reverse_reverse]
/-! ### the last line of a section -/
structure SecEnd (f : Int → Int) (n : Int) (p e : Int) : Prop where
  lo : p ≤ e
  hi : e < n
  deep : ∀ k, p < k → k ≤ e → f p < f k
  stop : e + 1 < n → f (e + 1) ≤ f p
theorem SecEnd.uniq {f : Int → Int} {n p e e' : Int} (h : SecEnd f n p e) (h' : SecEnd f n p e') : e = e' := by
  have key : ∀ {e e' : Int}, SecEnd f n p e → SecEnd f n p e' → ¬ e < e' := fun {e e'} h h' lt => by
    have a := h.stop (by have := h'.hi; omega)
    have b := h'.deep (e + 1) (by have := h.lo; omega) (by omega)
    omega
  have a := key h h'
  have b := key h' h
  omega
/-- the children between the line and the end of its section -/
def chI (ns : List Int) (p e : Int) : List Int := (rgI (p + 1) (e + 1)).filter fun k => decide (atD ns k = atD ns p + 1)
theorem fl_rg (f : Int → Bool) (a b : Int) : fl (fun i => f (a + (i : Nat))) (fun i => a + (i : Nat)) (b - a).toNat = (rgI a b).filter f := by
  unfold fl rgI
  rw [List.filter_map]
  rfl

/-! ### outlines by data -/
def vD : PyData → V
  | .int i => .int i
  | _ => .non
/-- is it an outline -/
def outD : PyData → Bool
  | .list ds => outV (ds.map vD)
  | _ => false
theorem chainV_vD {L : Lg} : ∀ {xs : List V} {ds : List PyData} (b : Int), DvAll L xs ds → chainV b xs = chainV b (ds.map vD)
  | _, _, _, .nil => rfl
  | _, _, b, .cons h r => by
    cases h with
    | int i => show (decide (0 ≤ i) && decide (i ≤ b + 1) && chainV i _) = (decide (0 ≤ i) && decide (i ≤ b + 1) && chainV i _); rw [chainV_vD i r]
    | _ => rfl
theorem outV_vD {L : Lg} {xs : List V} {ds : List PyData} (h : DvAll L xs ds) : outV xs = outV (ds.map vD) := by
  unfold outV
  rw [chainV_vD (-1) h, List.length_map, h.len]
theorem Dv.outIs {L : Lg} {x : V} {d : PyData} (h : Dv L x d) : OutIs L x (outD d) := by
  cases h with
  | lst m r =>
    refine .inl ⟨_, _, rfl, m, fun y hy => ?_, (outV_vD r).symm⟩
    obtain ⟨i, hi⟩ := List.mem_iff_getElem?.mp hy
    obtain ⟨d, _, hd⟩ := r.get hi
    exact ⟨_, hd.ty⟩
  | non => exact .inr ⟨_, .non, by decide, rfl⟩
  | bl b => exact .inr ⟨_, .bl b, by decide, rfl⟩
  | int i => exact .inr ⟨_, .int i, by decide, rfl⟩
  | str z => exact .inr ⟨_, .str z, by decide, rfl⟩
  | tup m _ => exact .inr ⟨_, .tup m, by decide, rfl⟩
  | dct m => exact .inr ⟨_, .dct m, by decide, rfl⟩
theorem map_vD_ints (ns : List Int) : (ns.map PyData.int).map vD = ns.map V.int := by rw [List.map_map]; rfl
theorem outD_ints (ns : List Int) : outD (.list (ns.map PyData.int)) = outV (ns.map V.int) := by
  show outV ((ns.map PyData.int).map vD) = _
  rw [map_vD_ints]
theorem chainV_app : ∀ (b : Int) (ns : List Int) (ys : List V), chainV b (ns.map V.int ++ ys) = (chainV b (ns.map V.int) && chainV (lastD b ns) ys)
  | b, [], ys => by simp [chainV, lastD]
  | b, d :: r, ys => by
    show (decide (0 ≤ d) && decide (d ≤ b + 1) && chainV d (r.map V.int ++ ys)) = ((decide (0 ≤ d) && decide (d ≤ b + 1) && chainV d (r.map V.int)) && chainV (lastD d r) ys)
    rw [chainV_app d r ys]
    simp [Bool.and_assoc]
theorem not_chain {b : Int} {d : PyData} {ys : List V} (h : ∀ i, d = .int i → i < 0 ∨ b + 1 < i) : chainV b (vD d :: ys) = false := by
  cases d with
  | int i =>
    show (decide (0 ≤ i) && decide (i ≤ b + 1) && chainV i ys) = false
    rcases h i rfl with h | h
    · rw [decide_eq_false (by omega : ¬ 0 ≤ i)]; rfl
    · rw [decide_eq_false (by omega : ¬ i ≤ b + 1), Bool.and_false]; rfl
  | _ => rfl
/-- one item is wrong -/
theorem not_outD {ns : List Int} {d : PyData} {es : List PyData} (h : ∀ i, d = .int i → i < 0 ∨ lastD (-1) ns + 1 < i) : outD (.list (ns.map PyData.int ++ d :: es)) = false := by
  show outV ((ns.map PyData.int ++ d :: es).map vD) = false
  unfold outV
  rw [List.map_append, map_vD_ints, List.map_cons, chainV_app, not_chain h, Bool.and_false, Bool.and_false]

theorem at_memV {xs : List V} {i : Int} (h0 : 0 ≤ i) (h1 : i < xs.length) : ∃ v, atI xs i = some v ∧ v ∈ xs := by
  obtain ⟨j, rfl⟩ : ∃ j : Nat, i = (j : Int) := ⟨i.toNat, by omega⟩
  have hl : j < xs.length := by omega
  exact ⟨xs[j], atI_nat (by rw [List.getElem?_eq_getElem hl]), List.getElem_mem hl⟩
theorem lastD_take : ∀ (b : Int) (ns : List Int) (i : Nat), i ≤ ns.length → (b :: ns)[i]? = some (lastD b (ns.take i))
  | b, ns, 0, _ => by simp [lastD]
  | b, [], i + 1, h => by simp at h
  | b, d :: r, i + 1, h => by
    have := lastD_take d r i (by simpa using h)
    simpa [lastD] using this
theorem Outline.lastBound {ns : List Int} (h : Outline ns) : 0 ≤ lastD (-1) ns ∧ lastD (-1) ns ≤ 199 := by
  have h1 := h.len
  have := lastD_bound (-1) ns h.chain h1.1
  omega

theorem t_setLast {L R : Lg} {p : Addr} {ns : List Int} {v : Int} {G : Hp → Prop} (hp : Pick p (.lst (ns.map V.int)) L R) (h : 1 ≤ ns.length) (k : Tr ((p, .lst ((ns.dropLast ++ [v]).map V.int)) :: R) G) : Tr L fun H => rSetL (.ref p) (.int (-1)) (.int v) H G := by
  refine t_setL (j := ns.length - 1) hp ?_ (Tr.lcast ?_ k)
  · unfold ixN
    rw [List.length_map, if_neg (by decide), if_pos (by omega)]
    congr 1
    omega
  · obtain ⟨l, x, rfl⟩ : ∃ l x, ns = l ++ [x] := ⟨ns.dropLast, ns.getLast (by intro e; subst e; simp at h), (List.dropLast_concat_getLast _).symm⟩
    simp
theorem Outline.setLast {ns : List Int} {d : Int} (h : Outline ns) (h0 : 0 ≤ d) (h1 : d ≤ lastD (-1) ns) : Outline (ns.dropLast ++ [d]) := by
  have hl := h.len
  obtain ⟨l, x, rfl⟩ : ∃ l x, ns = l ++ [x] := ⟨ns.dropLast, ns.getLast (by intro e; subst e; simp at hl), (List.dropLast_concat_getLast _).symm⟩
  rw [lastD_append] at h1
  obtain ⟨c1, c2, c3, -⟩ := (chainI_append _ _ _).mp h.chain
  rw [List.dropLast_concat]
  rw [List.length_append, List.length_singleton] at hl
  exact outline_iff.mpr ⟨by simp, by simp; omega, (chainI_append _ _ _).mpr ⟨c1, h0, by omega, trivial⟩⟩

/-! ### the law's bag of numbers -/
def Bag (m : Nat) (o : HO) : Prop := ∃ s0 s1 s2 : Int, o = .lst [.int s0, .int s1, .int s2] ∧ 0 ≤ s0 ∧ 0 ≤ s1 ∧ s1 < 2 ^ 140 ∧ 0 ≤ s2 ∧ s2 ≤ m
theorem Bag.le {m n : Nat} {o : HO} (h : Bag m o) (e : m ≤ n) : Bag n o := by
  obtain ⟨s0, s1, s2, h1, h2, h3, h4, h5, h6⟩ := h
  exact ⟨s0, s1, s2, h1, h2, h3, h4, h5, by omega⟩
def sp_law_bag  : Sp := fun vs H Q E => ∃ (c k : Int) (L : Lg), vs = [.int c, .int k] ∧ Led H (L) ∧ (0 ≤ k) ∧ (k < 1000000) ∧ ∀ (p : Addr) (o : HO), (Bag 0 o) → Tr ((p, o) :: L) (fun H => Q (.ref p) H)
theorem use_law_bag {L : Lg} {Q : VK} {E : XK} {c k : Int} (h0 : 0 ≤ k) (h1 : k < 1000000) (q : ∀ (p : Addr) (o : HO), (Bag 0 o) → Tr ((p, o) :: L) (fun H => Q (.ref p) H)) : Tr L fun H => sp_law_bag [.int c, .int k] H Q E :=
  fun H l => ⟨c, k, L, rfl, l, h0, h1, q⟩

theorem ok_law_bag (D : Df K mg "_law_bag" s_law_bag) (B : Blt mg) : Ok P w K mg base CX0 1 "_law_bag" ["cell", "turn"] sp_law_bag := by
  obtain ⟨f, fd, hm, F⟩ := D
  refine ⟨f, fd, hm, F.kp, F.binds (fun _ _ _ _ _ _ us hl => match us, hl with | [_, _], _ => rfl), FunOkG F sc_law_bag (fun vs H Q E h => ?_) (fun cdv A outer s H vs Q E hr h => ?_), F.lk⟩
  · obtain ⟨_, _, _, rfl, _⟩ := h; rfl
  obtain ⟨c, k, L, rfl, l, h0, h1, q⟩ := h
  refine ⟨_, PSs.nox (pss_cons (ps_set (i := 2) sc_law_bag.nd rfl (.inl rfl) (pe_callB (c_max2 rfl) rfl B.max_ boot_max (pa_cons (pv 0) (pa_cons (pe_op op_sub pe_int (pv 0)) pa_nil))))
      (pss_one (ps_ret (pe_lst (pa_cons (pe_callB (c_max2 rfl) rfl B.max_ boot_max (pa_cons pe_int (pa_cons (pe_op op_sub (pv 2) (pe_op op_powW pe_int pe_int)) pa_nil))) (pa_cons (pe_op op_mod (pe_op op_add (pe_op op_mulA (pv 0) (pe_op op_powW pe_int pe_int)) (pe_op op_mulA (pe_op op_powW pe_int pe_int) (pe_op op_add (pv 1) pe_int))) (pe_op op_add (pe_op op_powW pe_int pe_int) pe_int)) (pa_cons pe_int pa_nil))))))), ?_⟩
  rw [show L2.start ["cell", "turn", "size"] [.int c, .int k] = [some (.int c), some (.int k), none] from rfl]
  refine Tr.of ?_ l
  repeat walk_at "hz"
  refine t_rI (pow_ok 4 (by decide) (by decide) (by decide) (by decide)) ?_
  rw [show (10 : Int) ^ (18 : Int).toNat = 1000000000000000000 by decide]
  repeat walk_at "hz"
  refine t_rI (pow_ok 20 (by decide) (by decide) (by decide) (by decide)) ?_
  rw [show (1000003 : Int) ^ (3 : Int).toNat = 1000009000027000027 by decide]
  refine t_rI (.inr (.inl ⟨by decide, by decide⟩)) ?_
  refine t_op ?_
  refine t_op ?_
  repeat walk_at "hz"
  refine t_rI (pow_ok 30 (by decide) (by decide) (by decide) (by decide)) ?_
  repeat walk_at "hz"
  refine t_rI (pow_ok 4 (by decide) (by decide) (by decide) (by decide)) ?_
  rw [show (10 : Int) ^ (42 : Int).toNat = 1000000000000000000000000000000000000000000 by decide]
  repeat walk_at "hz"
  exact q _ _ ⟨_, _, _, rfl, by omega, Int.emod_nonneg _ (by decide), Int.lt_trans (Int.emod_lt_of_pos _ (by decide)) (by decide), by omega, by omega⟩
def sp_law_draw  : Sp := fun vs H Q E => ∃ (a : Addr) (c : Int) (m : Nat) (o : HO) (L : Lg), vs = [.ref a, .int c] ∧ Led H ((a, o) :: L) ∧ (Bag m o) ∧ (m ≤ 1000000000) ∧ (0 < c) ∧ (c < 2 ^ 200) ∧ ∀ (d : Int) (o' : HO), (0 ≤ d) → (d < c) → (Bag (m + 1) o') → Tr ((a, o') :: L) (fun H => Q (.int d) H)
theorem use_law_draw {L0  L : Lg} {Q : VK} {E : XK} {a : Addr} {c : Int} {m : Nat} {o : HO} (hp0 : Pick (a) (o) L0 L) (hs : Bag m o) (hm : m ≤ 1000000000) (h0 : 0 < c) (h1 : c < 2 ^ 200) (q : ∀ (d : Int) (o' : HO), (0 ≤ d) → (d < c) → (Bag (m + 1) o') → Tr ((a, o') :: L) (fun H => Q (.int d) H)) : Tr L0 fun H => sp_law_draw [.ref a, .int c] H Q E :=
  fun H l => ⟨a, c, m, o, L, rfl, l.pick hp0, hs, hm, h0, h1, q⟩

theorem ok_law_draw (D : Df K mg "_law_draw" s_law_draw) (B : Blt mg) : Ok P w K mg base CX0 1 "_law_draw" ["bag", "many"] sp_law_draw := by
  obtain ⟨f, fd, hm, F⟩ := D
  refine ⟨f, fd, hm, F.kp, F.binds (fun _ _ _ _ _ _ us hl => match us, hl with | [_, _], _ => rfl), FunOkG F sc_law_draw (fun vs H Q E h => ?_) (fun cdv A outer s H vs Q E hr h => ?_), F.lk⟩
  · obtain ⟨_, _, _, _, _, rfl, _⟩ := h; rfl
  obtain ⟨a, c, m, o, L, rfl, l, hs, hm, h0, h1, q⟩ := h
  refine ⟨_, PSs.nox (pss_cons (ps_if (pt_cmpR op_gt (pe_ix ix_list (pv 0) pe_int (fun _ _ => rfl)) pe_int (nomark _)) (pss_cons (ps_set (i := 2) sc_law_draw.nd rfl (.inl rfl) (pe_op op_mod (pe_ix ix_list (pv 0) pe_int (fun _ _ => rfl)) (pv 1)))
      (pss_cons (ps_asg (pe_op op_fdivW (pe_ix ix_list (pv 0) pe_int (fun _ _ => rfl)) (pv 1)) (pg_sub (pv 0) pe_int set_list))
      (pss_one (ps_ret (pv 2)))))
        pss_nil)
      (pss_cons (ps_asg (pe_op op_add (pe_ix ix_list (pv 0) pe_int (fun _ _ => rfl)) pe_int) (pg_sub (pv 0) pe_int set_list))
      (pss_cons (ps_set (i := 3) sc_law_draw.nd rfl (.inl rfl) (pe_op op_mod (pe_op op_add (pe_ix ix_list (pv 0) pe_int (fun _ _ => rfl)) (pe_op op_mulA (pe_ix ix_list (pv 0) pe_int (fun _ _ => rfl)) (pe_op op_powW pe_int pe_int))) (pe_op op_add (pe_op op_powW pe_int pe_int) pe_int)))
      (pss_cons (ps_set (i := 3) sc_law_draw.nd rfl (.inl rfl) (pe_op op_add (pe_op op_mod (pe_op op_powW (pv 3) pe_int) (pe_op op_add (pe_op op_powW pe_int pe_int) pe_int)) (pe_op op_mulA (pe_ix ix_list (pv 0) pe_int (fun _ _ => rfl)) pe_int)))
      (pss_one (ps_ret (pe_op op_mod (pe_op op_fdivW (pe_op op_mod (pe_op op_powW (pv 3) pe_int) (pe_op op_add (pe_op op_powW pe_int pe_int) pe_int)) pe_int) (pv 1)))))))), ?_⟩
  rw [show L2.start ["bag", "many", "found", "mixed"] [.ref a, .int c] = [some (.ref a), some (.int c), none, none] from rfl]
  refine Tr.of ?_ l
  repeat walk_at "hz"
  obtain ⟨s0, s1, s2, rfl, g0, g1, g2, g3, g4⟩ := hs
  repeat walk_at "hz"
  have hc : c.natAbs < 2 ^ 200 := by omega
  refine t_iteD (fun h2 => ?_) fun h2 => ?_
  · repeat walk_at "hz"
    refine t_rI (div_ok 200 (by decide) h0 hc (by decide)) ?_
    repeat walk_at "hz"
    refine t_setL .head rfl ?_
    repeat walk_at "hz"
    exact q _ _ (Int.emod_nonneg _ (by omega)) (Int.emod_lt_of_pos _ h0) ⟨_, _, _, rfl, Int.ediv_nonneg g0 (by omega), g1, g2, g3, by omega⟩
  · repeat walk_at "hz"
    refine t_setL .head rfl ?_
    repeat walk_at "hz"
    refine t_rI (pow_ok 40 (by decide) (by decide) (by decide) (by decide)) ?_
    rw [show (2971215073 : Int) ^ (3 : Int).toNat = 26230240268816379069089594017 by decide]
    repeat walk_at "hz"
    refine t_rI (pow_ok 4 (by decide) (by decide) (by decide) (by decide)) ?_
    rw [show (10 : Int) ^ (42 : Int).toNat = 1000000000000000000000000000000000000000000 by decide]
    repeat walk_at "hz"
    generalize hx : (s1 + (s2 + 1) * 26230240268816379069089594017) % (1000000000000000000000000000000000000000000 + 63) = x
    have b1 : 0 ≤ x := by rw [← hx]; exact Int.emod_nonneg _ (by decide)
    have b2 : x < 1000000000000000000000000000000000000000000 + 63 := by rw [← hx]; exact Int.emod_lt_of_pos _ (by decide)
    refine t_rI (pow_ok 200 (by decide) (by omega) (by decide) (by decide)) ?_
    repeat walk_at "hz"
    refine t_rI (pow_ok 4 (by decide) (by decide) (by decide) (by decide)) ?_
    rw [show (10 : Int) ^ (39 : Int).toNat = 1000000000000000000000000000000000000000 by decide]
    repeat walk_at "hz"
    generalize hy : x ^ (3 : Int).toNat % (1000000000000000000000000000000000000000 + 33) = y
    have c1 : 0 ≤ y := by rw [← hy]; exact Int.emod_nonneg _ (by decide)
    have c2 : y < 1000000000000000000000000000000000000000 + 33 := by rw [← hy]; exact Int.emod_lt_of_pos _ (by decide)
    refine t_rI (pow_ok 200 (by decide) (by omega) (by decide) (by decide)) ?_
    repeat walk_at "hz"
    refine t_rI (pow_ok 4 (by decide) (by decide) (by decide) (by decide)) ?_
    rw [show (10 : Int) ^ (37 : Int).toNat = 10000000000000000000000000000000000000 by decide]
    repeat walk_at "hz"
    refine t_rI (div_ok 20 (by decide) (by decide) (by decide) (by decide)) ?_
    repeat walk_at "hz"
    exact q _ _ (Int.emod_nonneg _ (by omega)) (Int.emod_lt_of_pos _ h0) ⟨_, _, _, rfl, g0, g1, g2, by omega, by omega⟩
def sp_law_rising  : Sp := fun vs H Q E => ∃ (a : Addr) (most : Int) (m : Nat) (o : HO) (L : Lg), vs = [.ref a, .int most] ∧ Led H ((a, o) :: L) ∧ (Bag m o) ∧ (m ≤ 100000000) ∧ (1 ≤ most) ∧ (most ≤ 200) ∧ ∀ (ns : List Int) (p : Addr) (o' : HO), (Outline ns) → ((ns.length : Int) ≤ most) → (Bag (m + 1000) o') → Tr ((p, .lst (ns.map V.int)) :: (a, o') :: L) (fun H => Q (.ref p) H)
theorem use_law_rising {L0  L : Lg} {Q : VK} {E : XK} {a : Addr} {most : Int} {m : Nat} {o : HO} (hp0 : Pick (a) (o) L0 L) (hs : Bag m o) (hm : m ≤ 100000000) (h0 : 1 ≤ most) (h1 : most ≤ 200) (q : ∀ (ns : List Int) (p : Addr) (o' : HO), (Outline ns) → ((ns.length : Int) ≤ most) → (Bag (m + 1000) o') → Tr ((p, .lst (ns.map V.int)) :: (a, o') :: L) (fun H => Q (.ref p) H)) : Tr L0 fun H => sp_law_rising [.ref a, .int most] H Q E :=
  fun H l => ⟨a, most, m, o, L, rfl, l.pick hp0, hs, hm, h0, h1, q⟩

theorem ok_law_rising (D : Df K mg "_law_rising" s_law_rising) (B : Blt mg) (k__law_draw : Ok P w K mg base CX0 1 "_law_draw" ["bag", "many"] sp_law_draw) : Ok P w K mg base CX0 2 "_law_rising" ["bag", "most"] sp_law_rising := by
  obtain ⟨f, fd, hm, F⟩ := D
  refine ⟨f, fd, hm, F.kp, F.binds (fun _ _ _ _ _ _ us hl => match us, hl with | [_, _], _ => rfl), FunOkG F sc_law_rising (fun vs H Q E h => ?_) (fun cdv A outer s H vs Q E hr h => ?_), F.lk⟩
  · obtain ⟨_, _, _, _, _, rfl, _⟩ := h; rfl
  obtain ⟨a, most, m, o, L, rfl, l, hs, hm, h0, h1, q⟩ := h
  refine ⟨_, PSs.nox (pss_cons (ps_par (i := 2) (j := 3) (by rfl) sc_law_rising.nd rfl rfl (by decide) rfl rfl (pa_cons (pe_callG k__law_draw (hr.mono (by omega)) pas0 (pa_cons (pv 0) (pa_cons pe_int pa_nil))) (pa_cons (pe_op op_add pe_int (pe_callG k__law_draw (hr.mono (by omega)) pas0 (pa_cons (pv 0) (pa_cons (pv 1) pa_nil)))) pa_nil)) (by rfl))
      (pss_cons (ps_set (i := 4) sc_law_rising.nd rfl (.inl rfl) (pe_lst (pa_cons pe_int pa_nil)))
      (pss_cons (ps_for PassesOwn.never rfl (pi_range1 rfl B.range_ (pa_cons (pe_op op_sub (pv 3) pe_int) pa_nil)) (pg_name (i := 5) sc_law_rising.nd rfl (.inl rfl))
        (pss_cons (ps_set (i := 6) sc_law_rising.nd rfl (.inl rfl) (pe_op op_add (pe_ix ix_list (pv 4) (pe_un un_neg pe_int) (fun _ _ => rfl)) pe_int))
      (pss_cons (ps_set (i := 7) sc_law_rising.nd rfl (.inl rfl) (pe_lst (pa_cons (pe_callG k__law_draw (hr.mono (by omega)) pas0 (pa_cons (pv 0) (pa_cons (pe_op op_add (pv 6) pe_int) pa_nil))) (pa_cons (pe_op op_sub (pv 6) (pe_callTy c_int rfl B.int_ boot_int (pa_cons (pe_cmpR op_eq (pe_callG k__law_draw (hr.mono (by omega)) pas0 (pa_cons (pv 0) (pa_cons pe_int pa_nil))) pe_int (nomark _)) pa_nil))) (pa_cons (pe_callG k__law_draw (hr.mono (by omega)) pas0 (pa_cons (pv 0) (pa_cons (pe_op op_add (pe_callB (c_min2 rfl) rfl B.min_ boot_min (pa_cons (pv 6) (pa_cons pe_int pa_nil))) pe_int) pa_nil))) pa_nil)))))
      (pss_cons (ps_expr (pe_bm PySem.F.plainAttrs_list PySem.F.slot_list_append PySem.F.type_list_append mt_append (pv 7) (pa_cons (pe_callB (c_max2 rfl) rfl B.max_ boot_max (pa_cons pe_int (pa_cons (pe_op op_sub (pv 6) (pe_callG k__law_draw (hr.mono (by omega)) pas0 (pa_cons (pv 0) (pa_cons pe_int pa_nil)))) pa_nil))) pa_nil)))
      (pss_one (ps_expr (pe_bm PySem.F.plainAttrs_list PySem.F.slot_list_append PySem.F.type_list_append mt_append (pv 4) (pa_cons (pe_callB (c_max2 rfl) rfl B.max_ boot_max (pa_cons pe_int (pa_cons (pe_ix ix_list (pv 7) (pv 2) (fun _ _ => rfl)) pa_nil))) pa_nil))))))))
      (pss_one (ps_ret (pv 4)))))), ?_⟩
  rw [show L2.start ["bag", "most", "style", "many", "found", "turn", "top", "some"] [.ref a, .int most] = [some (.ref a), some (.int most), none, none, none, none, none, none] from rfl]
  refine Tr.of ?_ l
  repeat walk_at "hz"
  refine use_law_draw (by walk_at "pk") hs (by omega) (by omega) (by omega) fun style o_style stylel styleh hs => ?_
  repeat walk_at "hz"
  refine use_law_draw (by walk_at "pk") hs (by omega) (by omega) (by omega) fun many o_many manyl manyh hs => ?_
  repeat walk_at "hz"
  rename_i p
  refine t_forK wk_range (fun t ((ns, o, j5, j6, j7) : (List Int) × HO × Option V × Option V × Option V) => [some (.ref a), some (.int most), some (.int style), some (.int (1 + many)), some (.ref p), j5, j6, j7]) (fun t ((ns, o, j5, j6, j7) : (List Int) × HO × Option V × Option V × Option V) => (p, .lst (ns.map V.int)) :: (a, o) :: L) (fun t ((ns, o, j5, j6, j7) : (List Int) × HO × Option V × Option V × Option V) => ns.length = t + 1 ∧ chainI (-1) ns ∧ Bag (m + 2 + 4 * t) o) ⟨([0], o_many, _, _, _), ⟨rfl, ⟨by decide, by decide, trivial⟩, hs⟩, rfl, (by walk_at "sb")⟩ (fun _ _ _ => trivial) ?_ ?_
  · rintro t ⟨ns, o, j5, j6, j7⟩ v L' ht ⟨hl, hc, hs⟩ ⟨rfl, rfl⟩
    try dsimp only at hl hc hs ⊢
    simp only [List.nil_append, List.cons_append]
    have lb := lastD_bound (-1) ns hc (by omega)
    repeat walk_at "hz"
    refine t_ixL (by walk_at "pk") (at_lastD (-1) (by omega)) ?_
    repeat walk_at "hz"
    refine use_law_draw (by walk_at "pk") hs (by omega) (by omega) (by omega) fun e1 o_e1 e1l e1h hs => ?_
    repeat walk_at "hz"
    refine use_law_draw (by walk_at "pk") hs (by omega) (by omega) (by omega) fun e2 o_e2 e2l e2h hs => ?_
    repeat walk_at "hz"
    have eb : 0 ≤ (if decide (e2 = 0) = true then (1 : Int) else 0) ∧ (if decide (e2 = 0) = true then (1 : Int) else 0) ≤ 1 := by split <;> omega
    generalize (if decide (e2 = 0) = true then (1 : Int) else 0) = ee at eb
    refine use_law_draw (by walk_at "pk") hs (by omega) (by omega) (by omega) fun e3 o_e3 e3l e3h hs => ?_
    repeat walk_at "hz"
    rename_i pp
    refine use_law_draw (by walk_at "pk") hs (by omega) (by omega) (by omega) fun e4 o_e4 e4l e4h hs => ?_
    repeat walk_at "hz"
    obtain ⟨n, hn, nm, -⟩ := at_mem (ns := [e1, lastD (-1) ns + 1 - ee, e3, max 0 (lastD (-1) ns + 1 - e4)]) stylel (by simpa using styleh)
    have nb : n ≤ lastD (-1) ns + 1 := by
      simp only [List.mem_cons, List.not_mem_nil, or_false] at nm
      omega
    refine t_ixL (by walk_at "pk") hn ?_
    repeat walk_at "hz"
    refine t_pst (ns ++ [max 0 n], o_e4, _, _, _) ⟨(by (try dsimp only); (try simp only [List.length_append, List.length_cons, List.length_nil, List.length_map, List.length_singleton]); omega), (chainI_append _ _ _).mpr ⟨hc, by omega, by omega, trivial⟩, hs.le (by omega)⟩ rfl (by walk_at "sb")
  · rintro ⟨ns, o, j5, j6, j7⟩ ⟨hl, hc, hs⟩
    try dsimp only at hl hc hs ⊢
    repeat walk_at "hz"
    exact q ns p o (outline_iff.mpr ⟨by omega, by omega, hc⟩) (by omega) (hs.le (by omega))

/-- the least line that stands at or behind the scroll -/
structure TopIs (f : Int → Int) (n s t : Int) : Prop where
  lo : 0 ≤ t
  hi : t < n
  ok : s ≤ t - f t
  least : ∀ k, 0 ≤ k → k < t → k - f k < s
theorem TopIs.uniq {f : Int → Int} {n s t t' : Int} (h : TopIs f n s t) (h' : TopIs f n s t') : t = t' := by
  have a := h.least t' h'.lo
  have b := h'.least t h.lo
  have := h.ok
  have := h'.ok
  omega
theorem Stp.stops {f : Int → Int} {n : Nat} (S : Stp f n) : ∀ (k i : Nat), i + k < n → (i : Int) - f i ≤ ((i + k : Nat) : Int) - f ((i + k : Nat) : Int)
  | 0, _, _ => Int.le_refl _
  | k + 1, i, h => by
    have := S.stops k i (by omega)
    have := S.up (i + k) (by omega)
    rw [show ((i + (k + 1) : Nat) : Int) = ((i + k + 1 : Nat) : Int) by omega]
    omega
theorem Outline.mono {ns : List Int} (h : Outline ns) {i j : Int} (h0 : 0 ≤ i) (h1 : i ≤ j) (h2 : j < ns.length) : i - atD ns i ≤ j - atD ns j := by
  have := h.stp.stops (j - i).toNat i.toNat (by omega)
  rw [show ((i.toNat + (j - i).toNat : Nat) : Int) = j by omega, Int.toNat_of_nonneg h0] at this
  exact this
theorem topIs_iff {ns : List Int} (h : Outline ns) {s t : Int} (h0 : 0 ≤ t) : TopIs (atD ns) ns.length s t ↔ t < ns.length ∧ s ≤ t - atD ns t ∧ (0 < t → t - 1 - atD ns (t - 1) < s) := by
  constructor
  · intro x
    exact ⟨x.hi, x.ok, fun p => x.least (t - 1) (by omega) (by omega)⟩
  · rintro ⟨a, b, c⟩
    refine ⟨h0, a, b, fun k k0 k1 => ?_⟩
    have := h.mono k0 (show k ≤ t - 1 by omega) (by omega)
    have := c (by omega)
    omega
theorem atD_last {ns : List Int} (h : 1 ≤ ns.length) : atD ns ((ns.length : Int) - 1) = lastD (-1) ns := by
  have := at_lastD (-1) h
  have e := atI_nat (α := V) (xs := ns.map V.int) (j := ns.length - 1) (v := .int (lastD (-1) ns)) (by have := last_get (-1) h; rwa [List.length_map] at this)
  have e2 := atD_at (ns := ns) (i := (ns.length : Int) - 1) (by omega) (by omega)
  rw [show ((ns.length - 1 : Nat) : Int) = (ns.length : Int) - 1 by omega] at e
  rw [e] at e2
  exact (V.int.inj (Option.some.inj e2)).symm
theorem Outline.top {ns : List Int} (h : Outline ns) {s : Int} (hs : s ≤ ns.length - 1 - lastD (-1) ns) : ∃ k : Int, 0 ≤ k ∧ k < ns.length ∧ s ≤ k - atD ns k :=
  ⟨ns.length - 1, by have := h.len; omega, by omega, by rw [atD_last h.len.1]; exact hs⟩
/-- is the top line at the scroll position this one -/
noncomputable def topB (f : Int → Int) (n : Int) (p : Int × Int) : Bool := @decide (TopIs f n p.1 p.2) (Classical.propDecidable _)
theorem topB_iff {f : Int → Int} {n : Int} {p : Int × Int} : topB f n p = true ↔ TopIs f n p.1 p.2 := by
  unfold topB
  exact @decide_eq_true_iff _ (Classical.propDecidable _)
theorem topB_eq {f : Int → Int} {n : Int} {p : Int × Int} {r : Bool} (h : r = true ↔ TopIs f n p.1 p.2) : r = topB f n p := by
  rw [Bool.eq_iff_iff, h, topB_iff]

def sp_law_cells (K : PySem.W.Frag) : Sp := fun vs H Q E => ∃ (a : Addr) (ns : List Int) (L : Lg), vs = [.ref a] ∧ Led H (L) ∧ (Scr K L a ns) ∧ (ns.length ≤ 63) ∧ ∀ (p : Addr) (cs : List Int), (cs.length ≤ 8) → Tr ((p, .lst (cs.map V.int)) :: L) (fun H => Q (.ref p) H)
theorem use_law_cells {L : Lg} {Q : VK} {E : XK} {a : Addr} {ns : List Int} (hS : Scr K L a ns) (hl : ns.length ≤ 63) (q : ∀ (p : Addr) (cs : List Int), (cs.length ≤ 8) → Tr ((p, .lst (cs.map V.int)) :: L) (fun H => Q (.ref p) H)) : Tr L fun H => sp_law_cells K [.ref a] H Q E :=
  fun H l => ⟨a, ns, L, rfl, l, hS, hl, q⟩

theorem ok_law_cells (D : Df K mg "_law_cells" s_law_cells) (B : Blt mg) : Ok P w K mg base CX0 1 "_law_cells" ["script"] (sp_law_cells K) := by
  obtain ⟨f, fd, hm, F⟩ := D
  refine ⟨f, fd, hm, F.kp, F.binds (fun _ _ _ _ _ _ us hl => match us, hl with | [_], _ => rfl), FunOkG F sc_law_cells (fun vs H Q E h => ?_) (fun cdv A outer s H vs Q E hr h => ?_), F.lk⟩
  · obtain ⟨_, _, _, rfl, _⟩ := h; rfl
  obtain ⟨a, ns, L, rfl, l, hS, hl, q⟩ := h
  refine ⟨_, PSs.nox (pss_one (ps_ret (pe_op op_cat (pe_lst (pa_cons (pe_callB c_len rfl B.len_ boot_len (pa_cons (pv 0) pa_nil)) pa_nil)) (pe_slice sl_list (pv 0) po_none (po_some pe_int))))), ?_⟩
  rw [show L2.start ["script"] [.ref a] = [some (.ref a)] from rfl]
  refine Tr.of ?_ l
  repeat walk_at "hz"
  refine t_lenSc hS ?_
  repeat walk_at "hz"
  refine t_slSc hS.cons fun c => ?_
  refine Tr.lcast (cut_ints ns none (some 7)) ?_
  have h7 : (cutI ns none (some 7)).length ≤ 7 := by
    rw [cutI_upto (by decide), List.length_take]; omega
  refine t_cat (xs := [.int ns.length]) (ys := (cutI ns none (some 7)).map V.int) (.tail .head) .head (by rw [sizeLine_eq, List.length_map]; simp; omega) fun d => ?_
  exact (q d ((ns.length : Int) :: cutI ns none (some 7)) (by simp; omega)).sub (by walk_at "sb")
def sp_law_sized (K : PySem.W.Frag) : Sp := fun vs H Q E => ∃ (z a : Addr) (zs : List Int) (small great : Int) (m : Nat) (o : HO) (L : Lg), vs = [.ref z, .ref a, .int small, .int great] ∧ Led H ((a, o) :: L) ∧ (Scr K L z zs) ∧ (Bag m o) ∧ (m ≤ 100000) ∧ (1 ≤ small ∧ small ≤ 200) ∧ (8 ≤ great ∧ great ≤ 200) ∧ (small ≤ great) ∧ ∀ (ns : List Int) (p : Addr) (o' : HO), (Outline ns) → ((ns.length : Int) ≤ great) → (Bag (m + 1001) o') → Tr ((p, .lst (ns.map V.int)) :: (a, o') :: L) (fun H => Q (.ref p) H)
theorem use_law_sized {L0  L : Lg} {Q : VK} {E : XK} {z a : Addr} {zs : List Int} {small great : Int} {m : Nat} {o : HO} (hp0 : Pick (a) (o) L0 L) (hS : Scr K L z zs) (hs : Bag m o) (hm : m ≤ 100000) (h0 : 1 ≤ small ∧ small ≤ 200) (h1 : 8 ≤ great ∧ great ≤ 200) (h2 : small ≤ great) (q : ∀ (ns : List Int) (p : Addr) (o' : HO), (Outline ns) → ((ns.length : Int) ≤ great) → (Bag (m + 1001) o') → Tr ((p, .lst (ns.map V.int)) :: (a, o') :: L) (fun H => Q (.ref p) H)) : Tr L0 fun H => sp_law_sized K [.ref z, .ref a, .int small, .int great] H Q E :=
  fun H l => ⟨z, a, zs, small, great, m, o, L, rfl, l.pick hp0, hS, hs, hm, h0, h1, h2, q⟩

theorem ok_law_sized (D : Df K mg "_law_sized" s_law_sized) (B : Blt mg) (k__law_draw : Ok P w K mg base CX0 1 "_law_draw" ["bag", "many"] sp_law_draw) (k__law_rising : Ok P w K mg base CX0 2 "_law_rising" ["bag", "most"] sp_law_rising) : Ok P w K mg base CX0 3 "_law_sized" ["script", "bag", "small", "great"] (sp_law_sized K) := by
  obtain ⟨f, fd, hm, F⟩ := D
  refine ⟨f, fd, hm, F.kp, F.binds (fun _ _ _ _ _ _ us hl => match us, hl with | [_, _, _, _], _ => rfl), FunOkG F sc_law_sized (fun vs H Q E h => ?_) (fun cdv A outer s H vs Q E hr h => ?_), F.lk⟩
  · obtain ⟨_, _, _, _, _, _, _, _, rfl, _⟩ := h; rfl
  obtain ⟨z, a, zs, small, great, m, o, L, rfl, l, hS, hs, hm, h0, h1, h2, q⟩ := h
  refine ⟨_, PSs.nox (pss_cons (ps_if (pt_cmpR (op_eqD hr.rm.units) (pv 0) (pe_lst pa_nil) (nomark _)) (pss_one (ps_ret (pe_callG k__law_rising (hr.mono (by omega)) pas0 (pa_cons (pv 1) (pa_cons pe_int pa_nil)))))
        pss_nil)
      (pss_one (ps_ret (pe_callG k__law_rising (hr.mono (by omega)) pas0 (pa_cons (pv 1) (pa_cons (pe_ix ix_list (pe_lst (pa_cons pe_int (pa_cons (pv 2) (pa_cons (pv 3) pa_nil)))) (pe_callG k__law_draw (hr.mono (by omega)) pas0 (pa_cons (pv 1) (pa_cons pe_int pa_nil))) (fun _ _ => rfl)) pa_nil)))))), ?_⟩
  rw [show L2.start ["script", "bag", "small", "great"] [.ref z, .ref a, .int small, .int great] = [some (.ref z), some (.ref a), some (.int small), some (.int great)] from rfl]
  refine Tr.of ?_ l
  repeat walk_at "hz"
  refine t_eqSc (zs := []) hS.cons.cons (by walk_at "mb") ?_
  repeat walk_at "hz"
  refine t_iteD (fun h => ?_) fun h => ?_
  · repeat walk_at "hz"
    refine use_law_rising (by walk_at "pk") hs (by omega) (by omega) (by omega) fun ns p o1 ho hn hs => ?_
    exact (q ns p o1 ho (by omega) (hs.le (by omega))).sub (by walk_at "sb")
  · repeat walk_at "hz"
    refine use_law_draw (by walk_at "pk") hs (by omega) (by omega) (by omega) fun e o_e el eh hs => ?_
    repeat walk_at "hz"
    obtain ⟨x, x_at, x_mem, -⟩ := at_mem (ns := [8, small, great]) el (by simpa using eh)
    have xb : 1 ≤ x ∧ x ≤ great := by
      simp only [List.mem_cons, List.not_mem_nil, or_false] at x_mem
      omega
    refine t_ixL (by walk_at "pk") x_at ?_
    repeat walk_at "hz"
    refine use_law_rising (by walk_at "pk") hs (by omega) (by omega) (by omega) fun ns p o1 ho hn hs => ?_
    exact (q ns p o1 ho (by omega) (hs.le (by omega))).sub (by walk_at "sb")
/-- the first line, or none -/
def FlIs (f : Int → Int) (n s : Int) (v : V) : Prop := (∃ t, v = .int t ∧ TopIs f n s t) ∨ (v = .non ∧ ∀ k, 0 ≤ k → k < n → k - f k < s)
def sp_law_first_line  : Sp := fun vs H Q E => ∃ (a : Addr) (ns : List Int) (s : Int) (L : Lg), vs = [.ref a, .int s] ∧ Led H (L) ∧ ((a, .lst (ns.map V.int)) ∈ L) ∧ (ns.length ≤ 1000) ∧ ∀ (v : V), (FlIs (atD ns) ns.length s v) → Tr (L) (fun H => Q (v) H)
theorem use_law_first_line {L : Lg} {Q : VK} {E : XK} {a : Addr} {ns : List Int} {s : Int} (hm : (a, .lst (ns.map V.int)) ∈ L) (hz : ns.length ≤ 1000) (q : ∀ (v : V), (FlIs (atD ns) ns.length s v) → Tr (L) (fun H => Q (v) H)) : Tr L fun H => sp_law_first_line [.ref a, .int s] H Q E :=
  fun H l => ⟨a, ns, s, L, rfl, l, hm, hz, q⟩

theorem ok_law_first_line (D : Df K mg "_law_first_line" s_law_first_line) (B : Blt mg) : Ok P w K mg base CX0 1 "_law_first_line" ["depths", "scroll"] sp_law_first_line := by
  obtain ⟨f, fd, hm, F⟩ := D
  refine ⟨f, fd, hm, F.kp, F.binds (fun _ _ _ _ _ _ us hl => match us, hl with | [_, _], _ => rfl), FunOkG F sc_law_first_line (fun vs H Q E h => ?_) (fun cdv A outer s H vs Q E hr h => ?_), F.lk⟩
  · obtain ⟨_, _, _, _, rfl, _⟩ := h; rfl
  obtain ⟨a, ns, s, L, rfl, l, hm, hz, q⟩ := h
  refine ⟨_, PSs.nox (pss_cons (ps_for PassesOwn.never rfl (pi_enum (by rfl) B.enumerate_ (pa_cons (pv 0) pa_nil)) (pg_tup rfl (pgs_cons (pg_name (i := 2) sc_law_first_line.nd rfl (.inl rfl)) (pgs_cons (pg_name (i := 3) sc_law_first_line.nd rfl (.inl rfl)) pgs_nil)))
        (pss_one (ps_if (pt_cmpR op_ge (pe_op op_sub (pv 2) (pv 3)) (pv 1) (nomark _)) (pss_one (ps_ret (pv 2)))
        pss_nil)))
      (pss_one (ps_ret pe_non))), ?_⟩
  rw [show L2.start ["depths", "scroll", "spot", "deep"] [.ref a, .int s] = [some (.ref a), some (.int s), none, none] from rfl]
  refine Tr.of ?_ l
  obtain ⟨R_hm, P_hm⟩ := Pick.of_mem hm
  repeat walk_at "hz"
  obtain ⟨R, hp⟩ := Pick.of_mem hm
  refine t_forK (wk_enum (xs := ns.map V.int)) (fun t ((j2, j3) : Option V × Option V) => [some (.ref a), some (.int s), j2, j3]) (fun t ((j2, j3) : Option V × Option V) => L) (fun t ((j2, j3) : Option V × Option V) => ∀ k : Int, 0 ≤ k → k < (t : Int) → k - atD ns k < s) ⟨(_, _), fun k k0 k1 => by omega, rfl, (by walk_at "sb")⟩ (fun _ _ _ => ⟨R, hp⟩) ?_ ?_
  · rintro t ⟨j2, j3⟩ v L' ht hb ⟨T, x, rfl, hx, rfl⟩
    try dsimp only at hb ⊢
    simp only [List.nil_append, List.cons_append]
    obtain ⟨d, hd, rfl⟩ := map_get hx
    obtain rfl := atD_nat hd
    repeat walk_at "hz"
    refine t_iteD (fun h => ?_) fun h => ?_
    · repeat walk_at "hz"
      rw [List.length_map] at ht
      exact (q _ (.inl ⟨_, rfl, by omega, by omega, h, hb⟩)).sub (by walk_at "sb")
    · repeat walk_at "hz"
      have hb2 : ∀ k : Int, 0 ≤ k → k < ((t + 1 : Nat) : Int) → k - atD ns k < s := fun k k0 k1 => by
        by_cases c : k = (t : Int)
        · rw [c]; omega
        · exact hb k k0 (by omega)
      refine t_pst (_, _) hb2 rfl (by walk_at "sb")
  · rintro ⟨j2, j3⟩ hb
    try dsimp only at hb ⊢
    repeat walk_at "hz"
    rw [List.length_map] at hb
    exact q _ (.inr ⟨rfl, hb⟩)
def sp_law_watched  : Sp := fun vs H Q E => ∃ (a b : Addr) (ns : List Int) (many : Int) (m : Nat) (o : HO) (L : Lg), vs = [.ref a, .ref b, .int many] ∧ Led H ((a, o) :: L) ∧ ((b, .lst (ns.map V.int)) ∈ L) ∧ (Outline ns) ∧ (Bag m o) ∧ (m ≤ 100000) ∧ (0 ≤ many) ∧ (many ≤ 100) ∧ ∀ (p : Addr) (xs : List V) (ps : List (Int × Int)) (N : Lg) (o' : HO), (Prs N xs ps) → ((ps.length : Int) = many) → (∀ p ∈ ps, 0 ≤ p.1 ∧ p.1 ≤ 300 ∧ 0 ≤ p.2 ∧ p.2 ≤ 300) → (Bag (m + 500) o') → Tr ((p, .lst xs) :: (a, o') :: (N ++ L)) (fun H => Q (.ref p) H)
theorem use_law_watched {L0  L : Lg} {Q : VK} {E : XK} {a b : Addr} {ns : List Int} {many : Int} {m : Nat} {o : HO} (hp0 : Pick (a) (o) L0 L) (hm : (b, .lst (ns.map V.int)) ∈ L) (ho : Outline ns) (hs : Bag m o) (hn : m ≤ 100000) (h0 : 0 ≤ many) (h1 : many ≤ 100) (q : ∀ (p : Addr) (xs : List V) (ps : List (Int × Int)) (N : Lg) (o' : HO), (Prs N xs ps) → ((ps.length : Int) = many) → (∀ p ∈ ps, 0 ≤ p.1 ∧ p.1 ≤ 300 ∧ 0 ≤ p.2 ∧ p.2 ≤ 300) → (Bag (m + 500) o') → Tr ((p, .lst xs) :: (a, o') :: (N ++ L)) (fun H => Q (.ref p) H)) : Tr L0 fun H => sp_law_watched [.ref a, .ref b, .int many] H Q E :=
  fun H l => ⟨a, b, ns, many, m, o, L, rfl, l.pick hp0, hm, ho, hs, hn, h0, h1, q⟩

theorem ok_law_watched (D : Df K mg "_law_watched" s_law_watched) (B : Blt mg) (k__law_draw : Ok P w K mg base CX0 1 "_law_draw" ["bag", "many"] sp_law_draw) (k__law_first_line : Ok P w K mg base CX0 1 "_law_first_line" ["depths", "scroll"] sp_law_first_line) : Ok P w K mg base CX0 2 "_law_watched" ["bag", "depths", "many"] sp_law_watched := by
  obtain ⟨f, fd, hm, F⟩ := D
  refine ⟨f, fd, hm, F.kp, F.binds (fun _ _ _ _ _ _ us hl => match us, hl with | [_, _, _], _ => rfl), FunOkG F sc_law_watched (fun vs H Q E h => ?_) (fun cdv A outer s H vs Q E hr h => ?_), F.lk⟩
  · obtain ⟨_, _, _, _, _, _, _, rfl, _⟩ := h; rfl
  obtain ⟨a, b, ns, many, m, o, L, rfl, l, hm, ho, hs, hn, h0, h1, q⟩ := h
  refine ⟨_, PSs.nox (pss_cons (ps_set (i := 3) sc_law_watched.nd rfl (.inl rfl) (pe_lst pa_nil))
      (pss_cons (ps_set (i := 4) sc_law_watched.nd rfl (.inl rfl) (pe_op op_sub (pe_op op_sub (pe_callB c_len rfl B.len_ boot_len (pa_cons (pv 1) pa_nil)) pe_int) (pe_ix ix_list (pv 1) (pe_un un_neg pe_int) (fun _ _ => rfl))))
      (pss_cons (ps_set (i := 5) sc_law_watched.nd rfl (.inl rfl) (pe_callG k__law_draw (hr.mono (by omega)) pas0 (pa_cons (pv 0) (pa_cons pe_int pa_nil))))
      (pss_cons (ps_for PassesOwn.never rfl (pi_range1 rfl B.range_ (pa_cons (pv 2) pa_nil)) (pg_name (i := 6) sc_law_watched.nd rfl (.inl rfl))
        (pss_cons (ps_set (i := 7) sc_law_watched.nd rfl (.inl rfl) (pe_callG k__law_draw (hr.mono (by omega)) pas0 (pa_cons (pv 0) (pa_cons (pe_op op_add (pv 4) pe_int) pa_nil))))
      (pss_cons (ps_set (i := 8) sc_law_watched.nd rfl (.inl rfl) (pe_callG k__law_first_line (hr.mono (by omega)) pas0 (pa_cons (pv 1) (pa_cons (pv 7) pa_nil))))
      (pss_cons (ps_if (PW.pt (pw_and (pt_cmpR op_gt (pv 5) pe_int (nomark _)) (pw_and1 (pt_cmpR op_lt (pe_callG k__law_draw (hr.mono (by omega)) pas0 (pa_cons (pv 0) (pa_cons pe_int pa_nil))) (pv 5) (nomark _))))) (pss_one (ps_par (i := 7) (j := 8) (by rfl) sc_law_watched.nd rfl rfl (by decide) rfl rfl (pa_cons (pe_callB (c_max2 rfl) rfl B.max_ boot_max (pa_cons pe_int (pa_cons (pe_op op_sub (pe_op op_add (pv 7) (pe_callG k__law_draw (hr.mono (by omega)) pas0 (pa_cons (pv 0) (pa_cons pe_int pa_nil)))) pe_int) pa_nil))) (pa_cons (pe_callB (c_max2 rfl) rfl B.max_ boot_max (pa_cons pe_int (pa_cons (pe_op op_sub (pe_op op_add (pv 8) (pe_callG k__law_draw (hr.mono (by omega)) pas0 (pa_cons (pv 0) (pa_cons pe_int pa_nil)))) pe_int) pa_nil))) pa_nil)) (by rfl)))
        pss_nil)
      (pss_one (ps_expr (pe_bm PySem.F.plainAttrs_list PySem.F.slot_list_append PySem.F.type_list_append mt_append (pv 3) (pa_cons (pe_tup (pa_cons (pv 7) (pa_cons (pv 8) pa_nil))) pa_nil))))))))
      (pss_one (ps_ret (pv 3))))))), ?_⟩
  rw [show L2.start ["bag", "depths", "many", "found", "last", "odds", "turn", "scroll", "spot"] [.ref a, .ref b, .int many] = [some (.ref a), some (.ref b), some (.int many), none, none, none, none, none, none] from rfl]
  refine Tr.of ?_ l
  obtain ⟨R_hm, P_hm⟩ := Pick.of_mem hm
  repeat walk_at "hz"
  have hl := ho.len
  have lb := lastD_bound (-1) ns ho.chain hl.1
  repeat walk_at "hz"
  rename_i p
  refine t_ixL (by walk_at "pk") (at_lastD (-1) hl.1) ?_
  repeat walk_at "hz"
  refine use_law_draw (by walk_at "pk") hs (by omega) (by omega) (by omega) fun odds o_odds oddsl oddsh hs => ?_
  repeat walk_at "hz"
  refine t_forK wk_range (fun t ((xs, ps, N, o, j6, j7, j8) : (List V) × (List (Int × Int)) × Lg × HO × Option V × Option V × Option V) => [some (.ref a), some (.ref b), some (.int many), some (.ref p), some (.int ((ns.length : Int) - 1 - lastD (-1) ns)), some (.int odds), j6, j7, j8]) (fun t ((xs, ps, N, o, j6, j7, j8) : (List V) × (List (Int × Int)) × Lg × HO × Option V × Option V × Option V) => (p, .lst xs) :: (a, o) :: (N ++ L)) (fun t ((xs, ps, N, o, j6, j7, j8) : (List V) × (List (Int × Int)) × Lg × HO × Option V × Option V × Option V) => Prs N xs ps ∧ ps.length = t ∧ (∀ p ∈ ps, 0 ≤ p.1 ∧ p.1 ≤ 300 ∧ 0 ≤ p.2 ∧ p.2 ≤ 300) ∧ Bag (m + 1 + 4 * t) o) ⟨([], [], [], o_odds, _, _, _), ⟨.nil, rfl, (fun _ h => absurd h (by simp)), hs⟩, rfl, (by walk_at "sb")⟩ (fun _ _ _ => trivial) ?_ ?_
  · rintro t ⟨xs, ps, N, o, j6, j7, j8⟩ v L' ht ⟨hx, hl2, hb, hs⟩ ⟨rfl, rfl⟩
    try dsimp only at hx hl2 hb hs ⊢
    simp only [List.nil_append, List.cons_append]
    have hx2 := hx.len
    repeat walk_at "hz"
    refine use_law_draw (by walk_at "pk") hs (by omega) (by omega) (by omega) fun sc o_sc scl sch hs => ?_
    repeat walk_at "hz"
    refine use_law_first_line (by walk_at "mb") (by omega) fun v hv => ?_
    obtain ⟨tp, rfl, htp⟩ : ∃ tp, v = .int tp ∧ TopIs (atD ns) ns.length sc tp := by
      rcases hv with ⟨tp, h1, h2⟩ | ⟨h1, h2⟩
      · exact ⟨tp, h1, h2⟩
      · obtain ⟨k, k0, k1, k2⟩ := ho.top (s := sc) (by omega)
        have := h2 k k0 k1
        omega
    have t0 := htp.lo
    have t1 := htp.hi
    repeat walk_at "hz"
    have fin : ∀ (u v : Int) (o : HO) (T : Addr), 0 ≤ u → u ≤ 300 → 0 ≤ v → v ≤ 300 → Bag (m + 1 + 4 * (t + 1)) o → Prs ((T, .tup [.int u, .int v]) :: N) (xs ++ [.ref T]) (ps ++ [(u, v)]) ∧ (ps ++ [(u, v)]).length = t + 1 ∧
        (∀ p ∈ ps ++ [(u, v)], 0 ≤ p.1 ∧ p.1 ≤ 300 ∧ 0 ≤ p.2 ∧ p.2 ≤ 300) ∧ Bag (m + 1 + 4 * (t + 1)) o := fun u v o T u0 u1 v0 v1 hs => by
      refine ⟨(hx.mono fun _ h => .tail _ h).snoc (.head _), by simp [hl2], fun p hp => ?_, hs⟩
      rcases List.mem_append.mp hp with hp | hp
      · exact hb p hp
      · rw [List.mem_singleton.mp hp]; exact ⟨u0, u1, v0, v1⟩
    refine t_iteD (fun h => ?_) fun h => ?_
    · repeat walk_at "hz"
      refine use_law_draw (by walk_at "pk") hs (by omega) (by omega) (by omega) fun e o_e el eh hs => ?_
      repeat walk_at "hz"
      refine t_iteD (fun h2 => ?_) fun h2 => ?_
      · repeat walk_at "hz"
        refine use_law_draw (by walk_at "pk") hs (by omega) (by omega) (by omega) fun f o_f fl fh hs => ?_
        repeat walk_at "hz"
        refine use_law_draw (by walk_at "pk") hs (by omega) (by omega) (by omega) fun g o_g gl gh hs => ?_
        repeat walk_at "hz"
        rename_i T
        refine t_pst (xs ++ [.ref T], ps ++ [(max 0 (sc + f - 2), max 0 (tp + g - 2))], (T, .tup [.int (max 0 (sc + f - 2)), .int (max 0 (tp + g - 2))]) :: N, o_g, _, _, _) (fin _ _ _ _ (by omega) (by omega) (by omega) (by omega) (hs.le (by omega))) rfl (by walk_at "sb")
      · repeat walk_at "hz"
        rename_i T
        refine t_pst (xs ++ [.ref T], ps ++ [(sc, tp)], (T, .tup [.int sc, .int tp]) :: N, o_e, _, _, _) (fin _ _ _ _ (by omega) (by omega) (by omega) (by omega) (hs.le (by omega))) rfl (by walk_at "sb")
    · repeat walk_at "hz"
      rename_i T
      refine t_pst (xs ++ [.ref T], ps ++ [(sc, tp)], (T, .tup [.int sc, .int tp]) :: N, o_sc, _, _, _) (fin _ _ _ _ (by omega) (by omega) (by omega) (by omega) (hs.le (by omega))) rfl (by walk_at "sb")
  · rintro ⟨xs, ps, N, o, j6, j7, j8⟩ ⟨hx, hl2, hb, hs⟩
    try dsimp only at hx hl2 hb hs ⊢
    repeat walk_at "hz"
    exact q p xs ps N o hx (by omega) hb (hs.le (by omega))

/-! ### observations -/
/-- is it an observation -/
def obsD : PyData → Bool
  | .tuple [.int s, .int l] => decide (0 ≤ s) && decide (0 ≤ l)
  | _ => false
def isIntD : PyData → Bool
  | .int _ => true
  | _ => false
theorem Dv.isInt {L : Lg} {x : V} {d : PyData} (h : Dv L x d) : isInt x = isIntD d := by cases h <;> rfl
theorem obsD_two {d e : PyData} (h : (isIntD d && isIntD e) = false) : obsD (.tuple [d, e]) = false := by
  cases d <;> first | rfl | (cases e <;> first | rfl | cases h)
theorem obsD_len {ds : List PyData} (h : ds.length ≠ 2) : obsD (.tuple ds) = false := by
  match ds with
  | [] => rfl
  | [_] => unfold obsD; split <;> simp_all
  | [_, _] => exact absurd rfl h
  | _ :: _ :: _ :: _ => unfold obsD; split <;> simp_all
def sp_is_observation  : Sp := fun vs H Q E => ∃ (x : V) (d : PyData) (L : Lg), vs = [x] ∧ Led H (L) ∧ (Dv L x d) ∧ Tr (L) (fun H => Q (.bl (obsD d)) H)
theorem use_is_observation {L : Lg} {Q : VK} {E : XK} {x : V} {d : PyData} (hd : Dv L x d) (q : Tr (L) (fun H => Q (.bl (obsD d)) H)) : Tr L fun H => sp_is_observation [x] H Q E :=
  fun H l => ⟨x, d, L, rfl, l, hd, q⟩

theorem ok_is_observation (D : Df K mg "is_observation" s_is_observation) (B : Blt mg) (k_is_integer : Ok P w K mg base CX0 1 "is_integer" ["value"] sp_is_integer) : Ok P w K mg base CX0 2 "is_observation" ["value"] sp_is_observation := by
  obtain ⟨f, fd, hm, F⟩ := D
  refine ⟨f, fd, hm, F.kp, F.binds (fun _ _ _ _ _ _ us hl => match us, hl with | [_], _ => rfl), FunOkG F sc_is_observation (fun vs H Q E h => ?_) (fun cdv A outer s H vs Q E hr h => ?_), F.lk⟩
  · obtain ⟨_, _, _, rfl, _⟩ := h; rfl
  obtain ⟨x, d, L, rfl, l, hd, q⟩ := h
  refine ⟨_, PSs.nox (pss_cons (ps_if (PW.pt (pw_or (pt_not (pt_val (pe_callB c_is rfl B.isinstance_ boot_isinstance (pa_cons (pv 0) (pa_cons (pe_ty B.tuple_ boot_tuple) pa_nil))))) (pw_or1 (pt_cmpR op_ne (pe_callB c_len rfl B.len_ boot_len (pa_cons (pv 0) pa_nil)) pe_int (nomark _))))) (pss_one (ps_ret pe_bl))
        pss_nil)
      (pss_one (ps_ret (pe_and (pe_callG k_is_integer (hr.mono (by omega)) pas0 (pa_cons (pe_ix ix_tup (pv 0) pe_int (fun _ _ => rfl)) pa_nil)) (pe_and (pe_callG k_is_integer (hr.mono (by omega)) pas0 (pa_cons (pe_ix ix_tup (pv 0) pe_int (fun _ _ => rfl)) pa_nil)) (pe_and (pe_cmpR op_ge (pe_ix ix_tup (pv 0) pe_int (fun _ _ => rfl)) pe_int (nomark _)) (pe_one (pe_cmpR op_ge (pe_ix ix_tup (pv 0) pe_int (fun _ _ => rfl)) pe_int (nomark _))))))))), ?_⟩
  rw [show L2.start ["value"] [x] = [some x] from rfl]
  refine Tr.of ?_ l
  repeat walk_at "hz"
  by_cases c : dtName d = "tuple"
  · cases hd with
    | tup m r =>
      rename_i a xs ds
      have hl := r.len
      obtain ⟨R, hp⟩ := Pick.of_mem m
      refine t_is (.tup m) (by decide) ?_
      repeat walk_at "hz"
      refine t_iteND (fun h => ?_) fun h => ?_
      · repeat walk_at "hz"
        rw [obsD_len (by omega)] at q
        exact q
      · obtain ⟨x1, x2, rfl⟩ : ∃ x1 x2, xs = [x1, x2] := by
          match xs, h with
          | [a, b], _ => exact ⟨a, b, rfl⟩
          | [], h => simp at h
          | [_], h => simp at h
          | _ :: _ :: _ :: _, h => simp at h; omega
        cases r with
        | cons h1 r =>
          rename_i d1 ds
          cases r with
          | cons h2 r =>
            rename_i d2 ds
            cases r
            repeat walk_at "hz"
            refine use_is_integer h1.ty ?_
            repeat walk_at "hz"
            rw [h1.isInt]
            refine t_ite (fun c1 => ?_) fun c1 => ?_
            · repeat walk_at "hz"
              refine use_is_integer h2.ty ?_
              repeat walk_at "hz"
              rw [h2.isInt]
              refine t_ite (fun c2 => ?_) fun c2 => ?_
              · cases h1 with
                | int s =>
                  cases h2 with
                  | int l =>
                    repeat walk_at "hz"
                    refine t_iteD (fun c3 => ?_) fun c3 => ?_
                    · repeat walk_at "hz"
                      rw [show obsD (.tuple [.int s, .int l]) = decide (0 ≤ l) by show (decide (0 ≤ s) && decide (0 ≤ l)) = _; rw [decide_eq_true c3, Bool.true_and]] at q
                      exact q
                    · repeat walk_at "hz"
                      rw [show obsD (.tuple [.int s, .int l]) = false by show (decide (0 ≤ s) && decide (0 ≤ l)) = _; rw [decide_eq_false c3, Bool.false_and]] at q
                      exact q
                  | _ => cases c2
                | _ => cases c1
              · repeat walk_at "hz"
                rw [obsD_two (by rw [c2, Bool.and_false])] at q
                exact q
            · repeat walk_at "hz"
              rw [obsD_two (by rw [c1, Bool.false_and])] at q
              exact q
    | _ => exact absurd c (by simp [dtName])
  · refine t_is hd.ty (by decide) ?_
    rw [show isB (dtName d) "tuple" = false by cases d <;> first | rfl | exact absurd rfl c]
    repeat walk_at "hz"
    rw [show obsD d = false by cases d <;> first | rfl | exact absurd rfl c] at q
    exact q
/-- the first item that is no observation, or none -/
def badAt : List PyData → Option Nat
  | [] => none
  | d :: r => if obsD d = true then (badAt r).map (· + 1) else some 0
theorem badAt_none : ∀ {ds : List PyData}, (∀ d ∈ ds, obsD d = true) → badAt ds = none
  | [], _ => rfl
  | d :: r, h => by rw [badAt, if_pos (h d (.head _)), badAt_none fun x hx => h x (.tail _ hx)]; rfl
theorem badAt_at : ∀ {ds es : List PyData} {d : PyData}, (∀ x ∈ ds, obsD x = true) → obsD d = false → badAt (ds ++ d :: es) = some ds.length
  | [], es, d, _, h => by rw [List.nil_append, badAt, if_neg (by rw [h]; decide)]; rfl
  | x :: r, es, d, a, h => by
    rw [List.cons_append, badAt, if_pos (a x (.head _)), badAt_at (fun y hy => a y (.tail _ hy)) h]; rfl
theorem badAt_all : ∀ {ds : List PyData} {i : Nat}, (∀ j, j < i → ∀ d, ds[j]? = some d → obsD d = true) → (∀ d, ds[i]? = some d → obsD d = false) → i < ds.length → badAt ds = some i := fun {ds i} h1 h2 h3 => by
  have e : ds = ds.take i ++ ds[i] :: ds.drop (i + 1) := by rw [← List.drop_eq_getElem_cons h3, List.take_append_drop]
  have l : (ds.take i).length = i := by rw [List.length_take]; omega
  rw [e, badAt_at (fun x hx => ?_) (h2 _ (List.getElem?_eq_getElem h3)), l]
  obtain ⟨j, hj⟩ := List.mem_iff_getElem?.mp hx
  have hj2 := (List.getElem?_eq_some_iff.mp hj).1
  rw [l] at hj2
  rw [List.getElem?_take, if_pos hj2] at hj
  exact h1 j hj2 x hj
/-- what is wrong with a value as a list of observations: nothing, or the index that the error bears -/
def obsBad : PyData → Option (Option Nat)
  | .list ds => if 40 < ds.length then some none else (badAt ds).map some
  | _ => some none
theorem obsBad_list (ds : List PyData) : obsBad (.list ds) = if 40 < ds.length then some none else (badAt ds).map some := rfl
theorem DvAll.atX {L : Lg} : ∀ {xs : List V} {ds : List PyData}, DvAll L xs ds → ∀ {i : Nat} {v : V}, xs[i]? = some v → ∃ d, ds[i]? = some d ∧ Dv L v d
  | _, _, .nil, i, v, h => by simp at h
  | _, _, .cons h r, 0, v, e => by cases e; exact ⟨_, rfl, h⟩
  | _, _, .cons h r, i + 1, v, e => DvAll.atX r (i := i) (by simpa using e)
def ixV : Option Nat → V
  | none => .non
  | some k => .int (k : Nat)
def sp_check_observations (C_InvalidObservationsError : Addr) : Sp := fun vs H Q E => ∃ (y : V) (d : PyData) (L : Lg), vs = [y] ∧ Led H (L) ∧ (Dv L y d) ∧ ((obsBad d = none) → (Tr (L) (fun H => Q (.non) H))) ∧ (∀ (v : Option Nat), (obsBad d = some v) → ∀ dx : Addr, Tr ((dx, HO.xd [("index", ixV v)]) :: L) (fun H => E (.ref C_InvalidObservationsError) (some dx) H))
theorem use_check_observations {L : Lg} {Q : VK} {E : XK} {y : V} {d : PyData} (hd : Dv L y d) (q : (obsBad d = none) → (Tr (L) (fun H => Q (.non) H))) (x0 : ∀ (v : Option Nat), (obsBad d = some v) → ∀ dx : Addr, Tr ((dx, HO.xd [("index", ixV v)]) :: L) (fun H => E (.ref C_InvalidObservationsError) (some dx) H)) : Tr L fun H => sp_check_observations C_InvalidObservationsError [y] H Q E :=
  fun H l => ⟨y, d, L, rfl, l, hd, q, x0⟩

theorem ok_check_observations {C_InvalidObservationsError : Addr} (D : Df K mg "check_observations" s_check_observations) (B : Blt mg) (X_InvalidObservationsError : ErrI P w K mg base "InvalidObservationsError" "index" C_InvalidObservationsError) (g_MOST_OBSERVATIONS : GV mg "MOST_OBSERVATIONS" (.int 40)) (k_is_observation : Ok P w K mg base CX0 2 "is_observation" ["value"] sp_is_observation) : Ok P w K mg base (L2N.CX P w) 3 "check_observations" ["observations"] (sp_check_observations C_InvalidObservationsError) := by
  obtain ⟨f, fd, hm, F⟩ := D
  refine ⟨f, fd, hm, F.kp, F.binds (fun _ _ _ _ _ _ us hl => match us, hl with | [_], _ => rfl), FunOkG F sc_check_observations (fun vs H Q E h => ?_) (fun cdv A outer s H vs Q E hr h => ?_), F.lk⟩
  · obtain ⟨_, _, _, rfl, _⟩ := h; rfl
  obtain ⟨y, d, L, rfl, l, hd, q, x0⟩ := h
  refine ⟨_, (pss_cons (ps_if (PW.pt (pw_or (pt_not (pt_val (pe_callB c_is rfl B.isinstance_ boot_isinstance (pa_cons (pv 0) (pa_cons (pe_ty B.list_ boot_list) pa_nil))))) (pw_or1 (pt_cmpR op_gt (pe_callB c_len rfl B.len_ boot_len (pa_cons (pv 0) pa_nil)) (pe_gv g_MOST_OBSERVATIONS) (nomark _))))) (pss_one (ps_raiseI rfl (L2N.takes_of rfl rfl rfl rfl) (pe_mkI X_InvalidObservationsError hr.rm (by exact (pa_cons pe_non pa_nil)) (by omega))))
        pss_nil)
      (pss_one (ps_for (passes_of rfl) rfl (pi_enum (by rfl) B.enumerate_ (pa_cons (pv 0) pa_nil)) (pg_tup rfl (pgs_cons (pg_name (i := 1) sc_check_observations.nd rfl (.inl rfl)) (pgs_cons (pg_name (i := 2) sc_check_observations.nd rfl (.inl rfl)) pgs_nil)))
        (pss_one (ps_if (pt_not (pt_val (pe_callG k_is_observation (hr.mono (by omega)) pas0 (pa_cons (pv 2) pa_nil)))) (pss_one (ps_raiseI rfl (L2N.takes_of rfl rfl rfl rfl) (pe_mkI X_InvalidObservationsError hr.rm (by exact (pa_cons (pv 1) pa_nil)) (by omega))))
        pss_nil))))), ?_⟩
  rw [show L2.start ["observations", "index", "item"] [y] = [some y, none, none] from rfl]
  refine Tr.of ?_ l
  repeat walk_at "hz"
  by_cases c : dtName d = "list"
  · cases hd with
    | lst m r =>
      rename_i a xs ds
      have hl := r.len
      obtain ⟨R, hp⟩ := Pick.of_mem m
      refine t_is (.lst m) (by decide) ?_
      repeat walk_at "hz"
      refine t_iteD (fun h => ?_) fun h => ?_
      · repeat walk_at "hz"
        exact x0 none (by rw [obsBad_list, if_pos (by omega)]) _
      repeat walk_at "hz"
      have eb : obsBad (.list ds) = (badAt ds).map some := by rw [obsBad_list, if_neg (by omega)]
      refine t_forK (wk_enum (xs := xs)) (fun t ((j1, j2) : Option V × Option V) => [some (.ref a), j1, j2]) (fun t ((j1, j2) : Option V × Option V) => L) (fun t ((j1, j2) : Option V × Option V) => ∀ j, j < t → ∀ e, ds[j]? = some e → obsD e = true) ⟨(_, _), fun j h => by omega, rfl, (by walk_at "sb")⟩ (fun _ _ _ => ⟨R, hp⟩) ?_ ?_
      · rintro t ⟨j1, j2⟩ v L' ht hj ⟨T, x, rfl, hv, rfl⟩
        try dsimp only at hj ⊢
        simp only [List.nil_append, List.cons_append]
        obtain ⟨e, he, hx⟩ := r.atX hv
        repeat walk_at "hz"
        refine use_is_observation (d := e) (hx.mono fun p h => List.mem_cons_of_mem _ h) ?_
        by_cases ce : obsD e = true
        · rw [ce]
          repeat walk_at "hz"
          refine t_pst (_, _) (fun j j0 d hd => by by_cases c2 : j < t; (· exact hj j c2 d hd); (· rw [show j = t by omega] at hd; rw [he] at hd; cases hd; exact ce)) rfl (by walk_at "sb")
        · have ce2 : obsD e = false := by simpa using ce
          rw [ce2]
          repeat walk_at "hz"
          have eb2 : obsBad (.list ds) = some (some t) := by
            rw [eb, badAt_all hj (fun d hd => by rw [he] at hd; cases hd; exact ce2) (by omega)]; rfl
          exact (x0 (some t) eb2 _).sub (by walk_at "sb")
      · rintro ⟨j1, j2⟩ hj
        try dsimp only at hj ⊢
        repeat walk_at "hz"
        refine q ?_
        rw [eb, badAt_none fun d hd => ?_]; rfl
        obtain ⟨i, hi⟩ := List.mem_iff_getElem?.mp hd
        exact hj i (by have := (List.getElem?_eq_some_iff.mp hi).1; omega) d hi
    | _ => exact absurd c (by simp [dtName])
  · refine t_is hd.ty (by decide) ?_
    rw [show isB (dtName d) "list" = false by cases d <;> first | rfl | exact absurd rfl c]
    repeat walk_at "hz"
    exact x0 none (by cases d <;> first | rfl | exact absurd rfl c) _
/-- good: no error -/
structure ObsGood (L : Lg) (y : V) (b : Addr) (xs : List V) (ps : List (Int × Int)) : Prop where
  e : y = .ref b
  hm : (b, HO.lst xs) ∈ L
  hx : Prs L xs ps
  hb : Sm ps
  hl : ps.length ≤ 40
  hs : ∀ p ∈ ps, p.1 ≤ 2 ^ 40
theorem ObsGood.mono {L M : Lg} {y : V} {b : Addr} {xs : List V} {ps : List (Int × Int)} (h : ObsGood L y b xs ps) (s : ∀ p ∈ L, p ∈ M) : ObsGood M y b xs ps := ⟨h.e, s _ h.hm, h.hx.mono s, h.hb, h.hl, h.hs⟩
/-- what a value is as a number of lines -/
def numOk : V → Bool
  | .int n => decide (1 ≤ n) && decide (n ≤ 60)
  | _ => false
theorem numOk_int (n : Int) : numOk (.int n) = (decide (1 ≤ n) && decide (n ≤ 60)) := rfl
def sp_fits (C_InvalidOutlineError C_InvalidObservationsError : Addr) : Sp := fun vs H Q E => ∃ (x y : V) (b : Bool) (d : PyData) (L : Lg), vs = [x, y] ∧ Led H (L) ∧ (OutIs L x b) ∧ (Dv L y d) ∧ (b = true → obsBad d = none → ∃ a ns b xs ps, x = .ref a ∧ (a, HO.lst (ns.map V.int)) ∈ L ∧ Outline ns ∧ ObsGood L y b xs ps) ∧ ((b = true ∧ obsBad d = none) → (∀ (z : V) (N : Lg), Tr ((N ++ L)) (fun H => Q (z) H))) ∧ ((b = false) → Tr (L) (fun H => E (.ref C_InvalidOutlineError) none H)) ∧ (∀ (v : Option Nat), (b = true ∧ obsBad d = some v) → ∀ dx : Addr, Tr ((dx, HO.xd [("index", ixV v)]) :: L) (fun H => E (.ref C_InvalidObservationsError) (some dx) H))
theorem use_fits {L : Lg} {Q : VK} {E : XK} {x y : V} {b : Bool} {d : PyData} (ho : OutIs L x b) (hd : Dv L y d) (hg : b = true → obsBad d = none → ∃ a ns b xs ps, x = .ref a ∧ (a, HO.lst (ns.map V.int)) ∈ L ∧ Outline ns ∧ ObsGood L y b xs ps) (q : (b = true ∧ obsBad d = none) → (∀ (z : V) (N : Lg), Tr ((N ++ L)) (fun H => Q (z) H))) (x0 : (b = false) → Tr (L) (fun H => E (.ref C_InvalidOutlineError) none H)) (x1 : ∀ (v : Option Nat), (b = true ∧ obsBad d = some v) → ∀ dx : Addr, Tr ((dx, HO.xd [("index", ixV v)]) :: L) (fun H => E (.ref C_InvalidObservationsError) (some dx) H)) : Tr L fun H => sp_fits C_InvalidOutlineError C_InvalidObservationsError [x, y] H Q E :=
  fun H l => ⟨x, y, b, d, L, rfl, l, ho, hd, hg, q, x0, x1⟩

theorem ok_fits {C_InvalidObservationsError C_InvalidOutlineError : Addr} (D : Df K mg "fits" s_fits) (B : Blt mg) (k_check_outline : Ok P w K mg base (L2N.CX P w) 3 "check_outline" ["outline"] (sp_check_outline C_InvalidOutlineError)) (k_stops_of : Ok P w K mg base CX0 1 "stops_of" ["outline"] sp_stops_of) (k_check_observations : Ok P w K mg base (L2N.CX P w) 3 "check_observations" ["observations"] (sp_check_observations C_InvalidObservationsError)) : Ok P w K mg base (L2N.CX P w) 4 "fits" ["outline", "observations"] (sp_fits C_InvalidOutlineError C_InvalidObservationsError) := by
  obtain ⟨f, fd, hm, F⟩ := D
  refine ⟨f, fd, hm, F.kp, F.binds (fun _ _ _ _ _ _ us hl => match us, hl with | [_, _], _ => rfl), FunOkG F sc_fits (fun vs H Q E h => ?_) (fun cdv A outer s H vs Q E hr h => ?_), F.lk⟩
  · obtain ⟨_, _, _, _, _, rfl, _⟩ := h; rfl
  obtain ⟨x, y, b, d, L, rfl, l, ho, hd, hg, q, x0, x1⟩ := h
  refine ⟨_, (pss_cons (ps_expr (pe_callG k_check_outline (hr.mono (by omega)) (fun σ => L2N.passAt (L2N.takes_of rfl rfl rfl rfl) σ) (pa_cons (pv 0) pa_nil)))
      (pss_cons (ps_expr (pe_callG k_check_observations (hr.mono (by omega)) (fun σ => L2N.passAt (L2N.takes_of rfl rfl rfl rfl) σ) (pa_cons (pv 1) pa_nil)))
      (PSs.nox (pss_cons (ps_set (i := 2) sc_fits.nd rfl (.inl rfl) (pe_callG k_stops_of (hr.mono (by omega)) pas0 (pa_cons (pv 0) pa_nil)))
      (pss_cons (ps_for PassesOwn.never rfl (pi_list (pv 1)) (pg_tup rfl (pgs_cons (pg_name (i := 3) sc_fits.nd rfl (.inl rfl)) (pgs_cons (pg_name (i := 4) sc_fits.nd rfl (.inl rfl)) pgs_nil)))
        (pss_cons (ps_if (PW.pt (pw_or (pt_cmpR op_ge (pv 4) (pe_callB c_len rfl B.len_ boot_len (pa_cons (pv 0) pa_nil)) (nomark _)) (pw_or1 (pt_cmpR op_lt (pe_ix ix_list (pv 2) (pv 4) (fun _ _ => rfl)) (pv 3) (nomark _))))) (pss_one (ps_ret pe_bl))
        pss_nil)
      (pss_one (ps_if (PW.pt (pw_and (pt_cmpR op_gt (pv 4) pe_int (nomark _)) (pw_and1 (pt_cmpR op_ge (pe_ix ix_list (pv 2) (pe_op op_sub (pv 4) pe_int) (fun _ _ => rfl)) (pv 3) (nomark _))))) (pss_one (ps_ret pe_bl))
        pss_nil))))
      (pss_one (ps_ret pe_bl))))))), ?_⟩
  rw [show L2.start ["outline", "observations", "stops", "scroll", "line"] [x, y] = [some x, some y, none, none, none] from rfl]
  refine Tr.of ?_ l
  repeat walk_at "hz"
  refine use_check_outline ho (fun e1 => ?_) x0
  repeat walk_at "hz"
  refine use_check_observations hd (fun e2 => ?_) fun v e => x1 v ⟨e1, e⟩
  obtain ⟨a, ns, b, xs, ps, rfl, hm, ho, rfl, hn, hx, hb, hl, -⟩ := hg e1 e2
  have q : Tr L fun H => Q (.bl (ps.all (topB (atD ns) ns.length))) H := q ⟨e1, e2⟩ _ []
  have hnl := ho.len
  have hxl := hx.len
  obtain ⟨R, hp⟩ := Pick.of_mem hn
  obtain ⟨R_hm, P_hm⟩ := Pick.of_mem hm
  repeat walk_at "hz"
  refine use_stops_of hm (by omega) fun p => ?_
  repeat walk_at "hz"
  have sl : (stopsI ns).length = ns.length := stopsFrom_len _ _
  have sa : ∀ k : Int, 0 ≤ k → k < ns.length → atD (stopsI ns) k = k - atD ns k := fun k k0 k1 => by
    have := stopsFrom_get 0 ns k.toNat (atD ns k) (atD_get k0 k1)
    have e := atD_nat this
    rw [Int.toNat_of_nonneg k0, Int.zero_add] at e
    exact e
  refine t_forK (wk_list (xs := xs)) (fun t ((j3, j4) : Option V × Option V) => [some (.ref a), some (.ref b), some (.ref p), j3, j4]) (fun t ((j3, j4) : Option V × Option V) => (p, .lst ((stopsI ns).map V.int)) :: L) (fun t ((j3, j4) : Option V × Option V) => ∀ y ∈ ps.take t, TopIs (atD ns) ns.length y.1 y.2) ⟨(_, _), fun y hy => absurd hy (by simp), rfl, (by walk_at "sb")⟩ (fun _ _ _ => ⟨_, hp.tail⟩) ?_ ?_
  · rintro t ⟨j3, j4⟩ v L' ht hy ⟨hv, rfl⟩
    try dsimp only at hy ⊢
    simp only [List.nil_append, List.cons_append]
    obtain ⟨T, y, rfl, he, m⟩ := hx.at hv
    have yb := hb y (List.mem_of_getElem? he)
    have tI := topIs_iff ho (s := y.1) yb.2.2.1
    obtain ⟨R2, hp2⟩ := Pick.of_mem m
    have no : ¬ TopIs (atD ns) ns.length y.1 y.2 → Tr ((p, .lst ((stopsI ns).map V.int)) :: L) fun H => Q (.bl false) H := fun h =>
      by
      have e : ps.all (topB (atD ns) ns.length) = false := by
        rw [Bool.eq_false_iff]
        intro h2
        exact h (topB_iff.mp (List.all_eq_true.mp h2 y (List.mem_of_getElem? he)))
      rw [e] at q
      exact q.sub (by walk_at "sb")
    have yes : TopIs (atD ns) ns.length y.1 y.2 → ∀ z ∈ ps.take (t + 1), TopIs (atD ns) ns.length z.1 z.2 := fun h z hz => by
      rw [take_more he] at hz
      rcases List.mem_append.mp hz with hz | hz
      · exact hy z hz
      · rw [List.mem_singleton.mp hz]; exact h
    repeat walk_at "hz"
    refine t_iteD (fun c1 => ?_) fun c1 => ?_
    · repeat walk_at "hz"
      exact no fun h => by have := tI.mp h; omega
    repeat walk_at "hz"
    have e1 := sa y.2 yb.2.2.1 (by omega)
    rw [e1]
    refine t_iteD (fun c2 => ?_) fun c2 => ?_
    · repeat walk_at "hz"
      exact no fun h => by have := tI.mp h; omega
    repeat walk_at "hz"
    refine t_iteD (fun c3 => ?_) fun c3 => ?_
    · repeat walk_at "hz"
      have e2 := sa (y.2 - 1) (by omega) (by omega)
      rw [e2]
      refine t_iteD (fun c4 => ?_) fun c4 => ?_
      · repeat walk_at "hz"
        exact no fun h => by have := (tI.mp h).2.2 c3; omega
      · repeat walk_at "hz"
        refine t_pst (_, _) (yes (tI.mpr ⟨by omega, by omega, fun _ => by omega⟩)) rfl (by walk_at "sb")
    · repeat walk_at "hz"
      refine t_pst (_, _) (yes (tI.mpr ⟨by omega, by omega, fun _ => by omega⟩)) rfl (by walk_at "sb")
  · rintro ⟨j3, j4⟩ hy
    try dsimp only at hy ⊢
    rw [hxl, List.take_length] at hy
    repeat walk_at "hz"
    have e : ps.all (topB (atD ns) ns.length) = true := List.all_eq_true.mpr fun y h => topB_iff.mpr (hy y h)
    rw [e] at q
    exact q.sub (by walk_at "sb")

/-! ### sums -/
def sg (n : Nat) (f : Nat → Int) : Int := ((List.range n).map f).sum
theorem sg_zero0 (f : Nat → Int) : sg 0 f = 0 := rfl
theorem sg_succ (n : Nat) (f : Nat → Int) : sg (n + 1) f = sg n f + f n := by
  unfold sg
  rw [List.range_succ, List.map_append, List.sum_append]
  simp
theorem sg_front (n : Nat) (f : Nat → Int) : sg (n + 1) f = f 0 + sg n fun i => f (i + 1) := by
  unfold sg
  rw [List.range_succ_eq_map, List.map_cons, List.sum_cons, List.map_map]
  rfl
theorem sg_congr {n : Nat} {f g : Nat → Int} (h : ∀ i, i < n → f i = g i) : sg n f = sg n g := by
  unfold sg
  rw [List.map_congr_left fun i hi => h i (List.mem_range.mp hi)]
theorem sg_nil (n : Nat) : sg n (fun _ => 0) = 0 := by
  induction n with
  | zero => rfl
  | succ n ih => rw [sg_succ, ih]; rfl
theorem sg_add (n : Nat) (f g : Nat → Int) : sg n (fun i => f i + g i) = sg n f + sg n g := by
  induction n with
  | zero => rfl
  | succ n ih => rw [sg_succ, sg_succ, sg_succ, ih]; omega
theorem sg_mul (n : Nat) (c : Int) (f : Nat → Int) : sg n (fun i => c * f i) = c * sg n f := by
  induction n with
  | zero => rw [sg_zero0, sg_zero0, Int.mul_zero]
  | succ n ih => rw [sg_succ, sg_succ, ih, Int.mul_add]
theorem sg_mulr (n : Nat) (c : Int) (f : Nat → Int) : sg n (fun i => f i * c) = sg n f * c := by
  rw [Int.mul_comm, ← sg_mul]
  exact sg_congr fun i _ => Int.mul_comm _ _
theorem sg_swap (m n : Nat) (f : Nat → Nat → Int) : sg m (fun i => sg n fun j => f i j) = sg n fun j => sg m fun i => f i j := by
  induction m with
  | zero => rw [sg_zero0, show (fun j => sg 0 fun i => f i j) = fun _ => (0 : Int) from rfl, sg_nil]
  | succ m ih =>
    rw [sg_succ, ih, ← sg_add]
    exact sg_congr fun j _ => (sg_succ m _).symm
theorem sg_mono {n : Nat} {f g : Nat → Int} (h : ∀ i, i < n → f i ≤ g i) : sg n f ≤ sg n g := by
  induction n with
  | zero => exact Int.le_refl _
  | succ n ih =>
    rw [sg_succ, sg_succ]
    have := ih fun i hi => h i (by omega)
    have := h n (by omega)
    omega
theorem sg_pos {n : Nat} {f : Nat → Int} (h : ∀ i, i < n → 0 ≤ f i) : 0 ≤ sg n f := by
  have := sg_mono h
  rw [sg_nil] at this
  exact this
theorem sg_const (n : Nat) (c : Int) : sg n (fun _ => c) = n * c := by
  induction n with
  | zero => rw [sg_zero0]; simp
  | succ n ih => rw [sg_succ, ih, Int.natCast_succ, Int.add_mul, Int.one_mul]
theorem sg_one {n k : Nat} {f : Nat → Int} (h : ∀ i, i < n → i ≠ k → f i = 0) (hk : k < n) : sg n f = f k := by
  induction n with
  | zero => omega
  | succ n ih =>
    rw [sg_succ]
    by_cases c : k = n
    · rw [sg_congr (g := fun _ => 0) fun i hi => h i (by omega) (by omega), sg_nil, c]; omega
    · rw [ih (fun i hi => h i (by omega)) (by omega), h n (by omega) (fun e => c e.symm)]; omega
theorem sum_sg : ∀ l : List Int, l.sum = sg l.length fun i => l.getD i 0
  | [] => rfl
  | x :: l => by
    rw [List.sum_cons, List.length_cons, sg_front, sum_sg l]
    rfl
theorem drop_sg : ∀ (l : List Int) (k : Nat), (l.drop k).sum = sg l.length fun i => if k ≤ i then l.getD i 0 else 0
  | [], k => by rw [List.drop_nil]; rfl
  | x :: l, 0 => by
    rw [List.drop_zero, sum_sg]
    exact sg_congr fun i _ => by rw [if_pos (Nat.zero_le _)]
  | x :: l, k + 1 => by
    rw [List.drop_succ_cons, drop_sg l k, List.length_cons, sg_front, if_neg (by omega), Int.zero_add]
    refine sg_congr fun i _ => ?_
    by_cases c : k ≤ i
    · rw [if_pos c, if_pos (by omega)]; rfl
    · rw [if_neg c, if_neg (by omega)]
theorem take_sg (l : List Int) (k : Nat) : (l.take k).sum = sg l.length fun i => if i < k then l.getD i 0 else 0 := by
  have h : (l.take k).sum + (l.drop k).sum = l.sum := by rw [← List.sum_append, List.take_append_drop]
  rw [drop_sg, sum_sg l] at h
  have e : (sg l.length fun i => if i < k then l.getD i 0 else 0) + (sg l.length fun i => if k ≤ i then l.getD i 0 else 0) = sg l.length fun i => l.getD i 0 := by
    rw [← sg_add]
    refine sg_congr fun i _ => ?_
    by_cases c : k ≤ i
    · rw [if_pos c, if_neg (by omega)]; omega
    · rw [if_neg c, if_pos (by omega)]; omega
  omega
theorem sum_rev : ∀ l : List Int, l.reverse.sum = l.sum
  | [] => rfl
  | x :: l => by rw [List.reverse_cons, List.sum_append, sum_rev l, List.sum_cons]; simp; omega
theorem rev_take_sum (l : List Int) (k : Nat) : (l.reverse.take k).sum = (l.drop (l.length - k)).sum := by
  rw [List.take_reverse, sum_rev]
theorem atD_snoc {ns : List Int} {v : Int} {k : Int} (h0 : 0 ≤ k) : atD (ns ++ [v]) k = if k = ns.length then v else atD ns k := by
  unfold atD
  rw [List.getD_eq_getElem?_getD, List.getD_eq_getElem?_getD]
  by_cases c : k = ns.length
  · rw [if_pos c, show k.toNat = ns.length by omega, List.getElem?_append_right (Nat.le_refl _), Nat.sub_self]; rfl
  · rw [if_neg c]
    by_cases d : k.toNat < ns.length
    · rw [List.getElem?_append_left d]
    · rw [List.getElem?_eq_none (by rw [List.length_append, List.length_singleton]; omega), List.getElem?_eq_none (by omega)]
theorem atD_set {ns : List Int} {v : Int} {i k : Int} (h0 : 0 ≤ i) (h1 : i < ns.length) (hk : 0 ≤ k) : atD (ns.set i.toNat v) k = if k = i then v else atD ns k := by
  unfold atD
  rw [List.getD_eq_getElem?_getD, List.getD_eq_getElem?_getD, List.getElem?_set]
  by_cases c : k = i
  · rw [if_pos c, if_pos (by rw [c]), if_pos (by omega)]; rfl
  · rw [if_neg c, if_neg (by omega)]
theorem atD_out {ns : List Int} {k : Int} (h : (ns.length : Int) ≤ k) : atD ns k = 0 := by
  unfold atD
  rw [List.getD_eq_getElem?_getD, List.getElem?_eq_none (by omega)]
  rfl
theorem atD_rep {n : Nat} {v : Int} {k : Int} (h0 : 0 ≤ k) (h1 : k < n) : atD (List.replicate n v) k = v := by
  unfold atD
  rw [List.getD_eq_getElem?_getD, List.getElem?_replicate, if_pos (by omega)]
  rfl
theorem atD_rev {ns : List Int} {k : Int} (h0 : 0 ≤ k) (h1 : k < ns.length) : atD ns.reverse k = atD ns ((ns.length : Int) - 1 - k) := by
  unfold atD
  rw [List.getD_eq_getElem?_getD, List.getD_eq_getElem?_getD, List.getElem?_reverse (by omega), show ns.length - 1 - k.toNat = ((ns.length : Int) - 1 - k).toNat by omega]
theorem atD_i {ns : List Int} (k : Nat) : atD ns (k : Int) = ns.getD k 0 := rfl
theorem atD_app_l {xs ys : List Int} {k : Int} (h0 : 0 ≤ k) (h1 : k < xs.length) : atD (xs ++ ys) k = atD xs k := by
  unfold atD
  rw [List.getD_eq_getElem?_getD, List.getD_eq_getElem?_getD, List.getElem?_append_left (by omega)]
theorem atD_app_r {xs ys : List Int} {k : Int} (h1 : (xs.length : Int) ≤ k) : atD (xs ++ ys) k = atD ys (k - xs.length) := by
  unfold atD
  rw [List.getD_eq_getElem?_getD, List.getD_eq_getElem?_getD, List.getElem?_append_right (by omega), show k.toNat - xs.length = (k - xs.length).toNat by omega]

/-! ### what observations ask of the depths -/
/-- from above: by the outline's form and by the observations of this line -/
def Hi (ps : List (Int × Int)) (i d : Int) : Prop := d ≤ i ∧ ∀ p ∈ ps, p.2 = i → d ≤ i - p.1
/-- from below: by the observations of the next line -/
def Lo (ps : List (Int × Int)) (i d : Int) : Prop := 0 ≤ d ∧ ∀ p ∈ ps, p.2 = i + 1 → i + 1 - p.1 ≤ d
/-- two lists that tell these bounds -/
structure Lims (ps : List (Int × Int)) (n : Int) (lo hi : List Int) : Prop where
  l1 : (lo.length : Int) = n
  l2 : (hi.length : Int) = n
  lo : ∀ i d, 0 ≤ i → i < n → (atD lo i ≤ d ↔ Lo ps i d)
  hi : ∀ i d, 0 ≤ i → i < n → (d ≤ atD hi i ↔ Hi ps i d)
theorem Lims.bounds {ps : List (Int × Int)} {n : Int} {lo hi : List Int} (h : Lims ps n lo hi) {i : Int} (h0 : 0 ≤ i) (h1 : i < n) : 0 ≤ atD lo i ∧ atD hi i ≤ i :=
  ⟨((h.lo i _ h0 h1).mp (Int.le_refl _)).1, ((h.hi i _ h0 h1).mp (Int.le_refl _)).1⟩
theorem Lims.start {n : Int} (h : 1 ≤ n) : Lims [] n (List.replicate n.toNat 0) (rgI 0 n) := by
  refine ⟨by rw [List.length_replicate]; omega, by rw [rgI_len]; omega, fun i d h0 h1 => ?_, fun i d h0 h1 => ?_⟩
  · rw [atD_rep h0 (by omega)]
    exact ⟨fun h => ⟨h, fun _ h => absurd h (by simp)⟩, fun h => h.1⟩
  · rw [rg_at h0 (by omega)]
    exact ⟨fun h => ⟨by omega, fun _ h => absurd h (by simp)⟩, fun h => by have := h.1; omega⟩
theorem Lims.step0 {ps : List (Int × Int)} {n s l : Int} {lo hi : List Int} (h : Lims ps n lo hi) (h0 : l = 0) (h1 : l < n) :
    Lims (ps ++ [(s, l)]) n lo (hi.set l.toNat (min (atD hi l) (l - s))) := by
  have e := h.l2
  refine ⟨h.l1, by rw [List.length_set]; exact h.l2, fun i d i0 i1 => ?_, fun i d i0 i1 => ?_⟩
  · rw [h.lo i d i0 i1]
    refine ⟨fun q => ⟨q.1, fun p hp e => ?_⟩, fun q => ⟨q.1, fun p hp e => q.2 p (List.mem_append_left _ hp) e⟩⟩
    rcases List.mem_append.mp hp with hp | hp
    · exact q.2 p hp e
    · rw [List.mem_singleton.mp hp] at e
      have : l = i + 1 := e
      omega
  · rw [atD_set (by omega) (by omega) i0]
    have := h.hi i d i0 i1
    by_cases c : i = l
    · subst c
      rw [if_pos rfl]
      constructor
      · intro q
        have q2 := this.mp (by omega)
        refine ⟨q2.1, fun p hp e => ?_⟩
        rcases List.mem_append.mp hp with hp | hp
        · exact q2.2 p hp e
        · rw [List.mem_singleton.mp hp]; show d ≤ i - s; omega
      · intro q
        have q1 := this.mpr ⟨q.1, fun p hp e => q.2 p (List.mem_append_left _ hp) e⟩
        have q2 : d ≤ i - s := q.2 (s, i) (List.mem_append_right _ (.head _)) rfl
        omega
    · rw [if_neg c, this]
      refine ⟨fun q => ⟨q.1, fun p hp e => ?_⟩, fun q => ⟨q.1, fun p hp e => q.2 p (List.mem_append_left _ hp) e⟩⟩
      rcases List.mem_append.mp hp with hp | hp
      · exact q.2 p hp e
      · rw [List.mem_singleton.mp hp] at e
        exact absurd e (fun e => c e.symm)
theorem Lims.step {ps : List (Int × Int)} {n s l : Int} {lo hi : List Int} (h : Lims ps n lo hi) (h0 : 0 < l) (h1 : l < n) :
    Lims (ps ++ [(s, l)]) n (lo.set (l - 1).toNat (max (atD lo (l - 1)) (l - s))) (hi.set l.toNat (min (atD hi l) (l - s))) := by
  have e := h.l2
  have e1 := h.l1
  refine ⟨by rw [List.length_set]; exact h.l1, by rw [List.length_set]; exact h.l2, fun i d i0 i1 => ?_, fun i d i0 i1 => ?_⟩
  · rw [atD_set (by omega) (by omega) i0]
    have := h.lo i d i0 i1
    by_cases c : i = l - 1
    · subst c
      rw [if_pos rfl]
      constructor
      · intro q
        have q2 := this.mp (by omega)
        refine ⟨q2.1, fun p hp e => ?_⟩
        rcases List.mem_append.mp hp with hp | hp
        · exact q2.2 p hp e
        · rw [List.mem_singleton.mp hp]; show l - 1 + 1 - s ≤ d; omega
      · intro q
        have q1 := this.mpr ⟨q.1, fun p hp e => q.2 p (List.mem_append_left _ hp) e⟩
        have q2 : l - 1 + 1 - s ≤ d := q.2 (s, l) (List.mem_append_right _ (.head _)) (by show l = l - 1 + 1; omega)
        omega
    · rw [if_neg c, this]
      refine ⟨fun q => ⟨q.1, fun p hp e => ?_⟩, fun q => ⟨q.1, fun p hp e => q.2 p (List.mem_append_left _ hp) e⟩⟩
      rcases List.mem_append.mp hp with hp | hp
      · exact q.2 p hp e
      · rw [List.mem_singleton.mp hp] at e
        have : l = i + 1 := e
        omega
  · rw [atD_set (by omega) (by omega) i0]
    have := h.hi i d i0 i1
    by_cases c : i = l
    · subst c
      rw [if_pos rfl]
      constructor
      · intro q
        have q2 := this.mp (by omega)
        refine ⟨q2.1, fun p hp e => ?_⟩
        rcases List.mem_append.mp hp with hp | hp
        · exact q2.2 p hp e
        · rw [List.mem_singleton.mp hp]; show d ≤ i - s; omega
      · intro q
        have q1 := this.mpr ⟨q.1, fun p hp e => q.2 p (List.mem_append_left _ hp) e⟩
        have q2 : d ≤ i - s := q.2 (s, i) (List.mem_append_right _ (.head _)) rfl
        omega
    · rw [if_neg c, this]
      refine ⟨fun q => ⟨q.1, fun p hp e => ?_⟩, fun q => ⟨q.1, fun p hp e => q.2 p (List.mem_append_left _ hp) e⟩⟩
      rcases List.mem_append.mp hp with hp | hp
      · exact q.2 p hp e
      · rw [List.mem_singleton.mp hp] at e
        exact absurd e (fun e => c e.symm)
/-- what limits_of returns, and what is new -/
inductive LimV (ps : List (Int × Int)) (n : Int) : V → Lg → Prop where
  | no {p : Int × Int} {N : Lg} : p ∈ ps → n ≤ p.2 → LimV ps n .non N
  | yes {T a c : Addr} {lo hi : List Int} : (∀ p ∈ ps, p.2 < n) → Lims ps n lo hi → LimV ps n (.ref T) [(T, .tup [.ref a, .ref c]), (a, .lst (lo.map V.int)), (c, .lst (hi.map V.int))]

/-! ### limits_of -/
def sp_check_lines (C_InvalidNumberError : Addr) : Sp := fun vs H Q E => ∃ (x : V) (T : String) (L : Lg), vs = [x] ∧ Led H (L) ∧ (HasTy L x T) ∧ ((numOk x = true) → (Tr (L) (fun H => Q (.non) H))) ∧ ((numOk x = false) → Tr (L) (fun H => E (.ref C_InvalidNumberError) none H))
theorem use_check_lines {L : Lg} {Q : VK} {E : XK} {x : V} {T : String} (ht : HasTy L x T) (q : (numOk x = true) → (Tr (L) (fun H => Q (.non) H))) (x0 : (numOk x = false) → Tr (L) (fun H => E (.ref C_InvalidNumberError) none H)) : Tr L fun H => sp_check_lines C_InvalidNumberError [x] H Q E :=
  fun H l => ⟨x, T, L, rfl, l, ht, q, x0⟩

theorem ok_check_lines {C_InvalidNumberError : Addr} (D : Df K mg "check_lines" s_check_lines) (B : Blt mg) (X_InvalidNumberError : ExcC K mg "InvalidNumberError" C_InvalidNumberError) (g_MOST_LINES : GV mg "MOST_LINES" (.int 60)) (k_is_integer : Ok P w K mg base CX0 1 "is_integer" ["value"] sp_is_integer) : Ok P w K mg base (L2N.CX P w) 2 "check_lines" ["lines"] (sp_check_lines C_InvalidNumberError) := by
  obtain ⟨f, fd, hm, F⟩ := D
  refine ⟨f, fd, hm, F.kp, F.binds (fun _ _ _ _ _ _ us hl => match us, hl with | [_], _ => rfl), FunOkG F sc_check_lines (fun vs H Q E h => ?_) (fun cdv A outer s H vs Q E hr h => ?_), F.lk⟩
  · obtain ⟨_, _, _, rfl, _⟩ := h; rfl
  obtain ⟨x, T, L, rfl, l, ht, q, x0⟩ := h
  refine ⟨_, (pss_one (ps_if (PW.pt (pw_or (pt_not (pt_val (pe_callG k_is_integer (hr.mono (by omega)) pas0 (pa_cons (pv 0) pa_nil)))) (pw_or1 (pt_not (pt_chain op_le op_le pe_int (pv 0) (pe_gv g_MOST_LINES)))))) (pss_one (L2N.ps_raise rfl (L2N.takes_of rfl rfl rfl rfl) (pe_mk X_InvalidNumberError)))
        pss_nil)), ?_⟩
  rw [show L2.start ["lines"] [x] = [some x] from rfl]
  refine Tr.of ?_ l
  repeat walk_at "hz"
  refine use_is_integer ht ?_
  repeat walk_at "hz"
  by_cases c : isInt x = true
  · obtain ⟨n, rfl⟩ : ∃ n, x = .int n := by cases x <;> first | exact ⟨_, rfl⟩ | cases c
    repeat walk_at "hz"
    refine t_iteD (fun h1 => ?_) fun h1 => ?_
    · repeat walk_at "hz"
      refine t_iteND (fun h2 => ?_) fun h2 => ?_
      · repeat walk_at "hz"
        exact x0 (by rw [numOk_int, decide_eq_false h2, Bool.and_false])
      · repeat walk_at "hz"
        exact q (by rw [numOk_int, decide_eq_true h1, decide_eq_true h2]; rfl)
    · repeat walk_at "hz"
      exact x0 (by rw [numOk_int, decide_eq_false h1, Bool.false_and])
  · have c2 : isInt x = false := by simpa using c
    rw [c2]
    repeat walk_at "hz"
    exact x0 (by cases x <;> first | rfl | cases c2)
def sp_limits_of  : Sp := fun vs H Q E => ∃ (n : Int) (b : Addr) (xs : List V) (ps : List (Int × Int)) (L : Lg), vs = [.int n, .ref b] ∧ Led H (L) ∧ ((b, .lst xs) ∈ L) ∧ (Prs L xs ps) ∧ (Sm ps) ∧ (1 ≤ n ∧ n ≤ 60) ∧ ∀ (v : V) (N : Lg), (LimV ps n v N) → Tr ((N ++ L)) (fun H => Q (v) H)
theorem use_limits_of {L : Lg} {Q : VK} {E : XK} {n : Int} {b : Addr} {xs : List V} {ps : List (Int × Int)} (hm : (b, .lst xs) ∈ L) (hx : Prs L xs ps) (hb : Sm ps) (hn : 1 ≤ n ∧ n ≤ 60) (q : ∀ (v : V) (N : Lg), (LimV ps n v N) → Tr ((N ++ L)) (fun H => Q (v) H)) : Tr L fun H => sp_limits_of [.int n, .ref b] H Q E :=
  fun H l => ⟨n, b, xs, ps, L, rfl, l, hm, hx, hb, hn, q⟩

theorem ok_limits_of (D : Df K mg "limits_of" s_limits_of) (B : Blt mg) : Ok P w K mg base CX0 1 "limits_of" ["lines", "observations"] sp_limits_of := by
  obtain ⟨f, fd, hm, F⟩ := D
  refine ⟨f, fd, hm, F.kp, F.binds (fun _ _ _ _ _ _ us hl => match us, hl with | [_, _], _ => rfl), FunOkG F sc_limits_of (fun vs H Q E h => ?_) (fun cdv A outer s H vs Q E hr h => ?_), F.lk⟩
  · obtain ⟨_, _, _, _, _, rfl, _⟩ := h; rfl
  obtain ⟨n, b, xs, ps, L, rfl, l, hm, hx, hb, hn, q⟩ := h
  refine ⟨_, PSs.nox (pss_cons (ps_par (i := 2) (j := 3) (by rfl) sc_limits_of.nd rfl rfl (by decide) rfl rfl (pa_cons (pe_op op_rep (pe_lst (pa_cons pe_int pa_nil)) (pv 0)) (pa_cons (pe_listRg rfl rfl B.list_ (prg_1 rfl B.range_ (pv 0))) pa_nil)) (by rfl))
      (pss_cons (ps_for PassesOwn.never rfl (pi_list (pv 1)) (pg_tup rfl (pgs_cons (pg_name (i := 4) sc_limits_of.nd rfl (.inl rfl)) (pgs_cons (pg_name (i := 5) sc_limits_of.nd rfl (.inl rfl)) pgs_nil)))
        (pss_cons (ps_if (pt_cmpR op_ge (pv 5) (pv 0) (nomark _)) (pss_one (ps_ret pe_non))
        pss_nil)
      (pss_cons (ps_asg (pe_callB (c_min2 rfl) rfl B.min_ boot_min (pa_cons (pe_ix ix_list (pv 3) (pv 5) (fun _ _ => rfl)) (pa_cons (pe_op op_sub (pv 5) (pv 4)) pa_nil))) (pg_sub (pv 3) (pv 5) set_list))
      (pss_one (ps_if (pt_cmpR op_gt (pv 5) pe_int (nomark _)) (pss_one (ps_asg (pe_callB (c_max2 rfl) rfl B.max_ boot_max (pa_cons (pe_ix ix_list (pv 2) (pe_op op_sub (pv 5) pe_int) (fun _ _ => rfl)) (pa_cons (pe_op op_sub (pv 5) (pv 4)) pa_nil))) (pg_sub (pv 2) (pe_op op_sub (pv 5) pe_int) set_list)))
        pss_nil)))))
      (pss_one (ps_ret (pe_tup (pa_cons (pv 2) (pa_cons (pv 3) pa_nil))))))), ?_⟩
  rw [show L2.start ["lines", "observations", "least", "greatest", "scroll", "line"] [.int n, .ref b] = [some (.int n), some (.ref b), none, none, none, none] from rfl]
  refine Tr.of ?_ l
  obtain ⟨R_hm, P_hm⟩ := Pick.of_mem hm
  repeat walk_at "hz"
  obtain ⟨h0, h1⟩ := hn
  have hxl := hx.len
  obtain ⟨R, hp⟩ := Pick.of_mem hm
  repeat walk_at "hz"
  refine t_rep (by walk_at "pk") (by omega) (by omega) (by rw [sizeLine_eq]; simp; omega) fun a => ?_
  refine Tr.lcast (rep_ints _ 0) ?_
  repeat walk_at "hz"
  rename_i o1 c
  refine t_forK (wk_list (xs := xs)) (fun t ((lo, hi, j4, j5) : (List Int) × (List Int) × Option V × Option V) => [some (.int n), some (.ref b), some (.ref a), some (.ref c), j4, j5]) (fun t ((lo, hi, j4, j5) : (List Int) × (List Int) × Option V × Option V) => (c, .lst (hi.map V.int)) :: (a, .lst (lo.map V.int)) :: L) (fun t ((lo, hi, j4, j5) : (List Int) × (List Int) × Option V × Option V) => Lims (ps.take t) n lo hi ∧ ∀ p ∈ ps.take t, p.2 < n) ⟨(List.replicate n.toNat 0, rgI 0 n, _, _), ⟨Lims.start h0, fun p hp => absurd hp (by simp)⟩, rfl, (by walk_at "sb")⟩ (fun _ _ _ => ⟨_, (by walk_at "pk")⟩) ?_ ?_
  · rintro t ⟨lo, hi, j4, j5⟩ v L' ht ⟨hl, hs⟩ ⟨hv, rfl⟩
    try dsimp only at hl hs ⊢
    simp only [List.nil_append, List.cons_append]
    obtain ⟨T, y, rfl, he, m⟩ := hx.at hv
    have yb := hb y (List.mem_of_getElem? he)
    obtain ⟨R2, hp2⟩ := Pick.of_mem m
    have e1 := hl.l1
    have e2 := hl.l2
    repeat walk_at "hz"
    refine t_iteD (fun c1 => ?_) fun c1 => ?_
    · repeat walk_at "hz"
      exact (q _ [] (.no (List.mem_of_getElem? he) (by omega))).sub (by walk_at "sb")
    · repeat walk_at "hz"
      refine t_setI (by walk_at "pk") (by omega) (by omega) ?_
      repeat walk_at "hz"
      have al : ∀ p ∈ ps.take (t + 1), p.2 < n := fun p hp => by
        rw [take_more he] at hp
        rcases List.mem_append.mp hp with hp | hp
        · exact hs p hp
        · rw [List.mem_singleton.mp hp]; omega
      refine t_iteD (fun c2 => ?_) fun c2 => ?_
      · repeat walk_at "hz"
        refine t_setI (by walk_at "pk") (by omega) (by omega) ?_
        repeat walk_at "hz"
        have := hl.step (s := y.1) c2 (by omega)
        rw [← take_more (v := y) he] at this
        refine t_pst (_, _, _, _) ⟨this, al⟩ rfl (by walk_at "sb")
      · repeat walk_at "hz"
        have := hl.step0 (s := y.1) (l := y.2) (by omega) (by omega)
        rw [← take_more (v := y) he] at this
        refine t_pst (_, _, _, _) ⟨this, al⟩ rfl (by walk_at "sb")
  · rintro ⟨lo, hi, j4, j5⟩ ⟨hl, hs⟩
    try dsimp only at hl hs ⊢
    rw [hxl, List.take_length] at hl hs
    repeat walk_at "hz"
    exact (q _ _ (.yes hs hl)).sub (by walk_at "sb")

/-! ### numbers of outlines -/
/-- a line may have this depth -/
noncomputable def okB (ps : List (Int × Int)) (i d : Nat) : Bool := @decide (Lo ps i d ∧ Hi ps i d) (Classical.propDecidable _)
theorem okB_iff {ps : List (Int × Int)} {i d : Nat} : okB ps i d = true ↔ Lo ps i d ∧ Hi ps i d := by
  unfold okB
  exact @decide_eq_true_iff _ (Classical.propDecidable _)
/-- ways up to a line, by its depth -/
def cF (B : Nat → Nat → Bool) (n : Nat) : Nat → Nat → Int
  | 0, d => if d = 0 ∧ B 0 0 = true then 1 else 0
  | i + 1, d => if B (i + 1) d = true then sg n fun j => if d ≤ j + 1 then cF B n i j else 0 else 0
/-- ways to go on behind the line that is so many lines before the last one -/
def cW (B : Nat → Nat → Bool) (n : Nat) : Nat → Nat → Int
  | 0, _ => 1
  | k + 1, d => sg n fun j => if j ≤ d + 1 then (if B (n - 1 - k) j = true then cW B n k j else 0) else 0
theorem cFW (B : Nat → Nat → Bool) (n : Nat) : ∀ k i, i + k = n - 1 → sg n (cF B n (n - 1)) = sg n fun d => cF B n i d * cW B n k d
  | 0, i, h => by
    rw [show i = n - 1 by omega]
    exact sg_congr fun d _ => by rw [cW, Int.mul_one]
  | k + 1, i, h => by
    rw [cFW B n k (i + 1) (by omega)]
    have e1 : (sg n fun d => cF B n (i + 1) d * cW B n k d) = sg n fun d => sg n fun j => if B (i + 1) d = true then (if d ≤ j + 1 then cF B n i j * cW B n k d else 0) else 0 := by
      refine sg_congr fun d _ => ?_
      show (if B (i + 1) d = true then sg n fun j => if d ≤ j + 1 then cF B n i j else 0 else 0) * cW B n k d = _
      by_cases c : B (i + 1) d = true
      · rw [if_pos c, ← sg_mulr]
        refine sg_congr fun j _ => ?_
        rw [if_pos c]
        by_cases c2 : d ≤ j + 1
        · rw [if_pos c2, if_pos c2]
        · rw [if_neg c2, if_neg c2, Int.zero_mul]
      · rw [if_neg c, Int.zero_mul, sg_congr (g := fun _ => 0) fun j _ => by rw [if_neg c], sg_nil]
    have e2 : (sg n fun d => cF B n i d * cW B n (k + 1) d) = sg n fun j => sg n fun d => if B (i + 1) d = true then (if d ≤ j + 1 then cF B n i j * cW B n k d else 0) else 0 := by
      refine sg_congr fun j _ => ?_
      show cF B n i j * (sg n fun d => if d ≤ j + 1 then (if B (n - 1 - k) d = true then cW B n k d else 0) else 0) = _
      rw [← sg_mul, show n - 1 - k = i + 1 by omega]
      refine sg_congr fun d _ => ?_
      by_cases c : B (i + 1) d = true
      · rw [if_pos c, if_pos c]
        by_cases c2 : d ≤ j + 1
        · rw [if_pos c2, if_pos c2]
        · rw [if_neg c2, if_neg c2, Int.mul_zero]
      · rw [if_neg c, if_neg c]
        by_cases c2 : d ≤ j + 1
        · rw [if_pos c2, Int.mul_zero]
        · rw [if_neg c2, Int.mul_zero]
    rw [e1, e2, sg_swap]
/-- the number of outlines of so many lines -/
def cN (B : Nat → Nat → Bool) (n : Nat) : Int := sg n (cF B n (n - 1))
theorem cN_back (B : Nat → Nat → Bool) {n : Nat} (h : 1 ≤ n) : cN B n = if B 0 0 = true then cW B n (n - 1) 0 else 0 := by
  unfold cN
  rw [cFW B n (n - 1) 0 (by omega), sg_one (k := 0) (fun i _ c => by rw [cF, if_neg (fun e => c e.1), Int.zero_mul]) (by omega), cF]
  by_cases c : B 0 0 = true
  · rw [if_pos ⟨rfl, c⟩, if_pos c, Int.one_mul]
  · rw [if_neg (fun e => c e.2), if_neg c, Int.zero_mul]
theorem cF_pos (B : Nat → Nat → Bool) (n : Nat) : ∀ i d, 0 ≤ cF B n i d
  | 0, d => by rw [cF]; split <;> decide
  | i + 1, d => by
    rw [cF]
    split
    · exact sg_pos fun j _ => by
        split
        · exact cF_pos B n i j
        · decide
    · decide
theorem cF_le (B : Nat → Nat → Bool) (n : Nat) : ∀ i d, cF B n i d ≤ (n : Int) ^ i
  | 0, d => by rw [cF, Int.pow_zero]; split <;> decide
  | i + 1, d => by
    have p : 0 ≤ (n : Int) ^ i := Int.pow_nonneg (by omega)
    rw [cF]
    split
    · refine Int.le_trans (sg_mono (g := fun _ => (n : Int) ^ i) fun j _ => ?_) (by rw [sg_const, Int.pow_succ, Int.mul_comm]; exact Int.le_refl _)
      split
      · exact cF_le B n i j
      · exact p
    · exact Int.pow_nonneg (by omega)
theorem cN_le (B : Nat → Nat → Bool) {n : Nat} (h : 1 ≤ n) (h2 : n ≤ 60) : 0 ≤ cN B n ∧ cN B n < 2 ^ 360 := by
  refine ⟨sg_pos fun d _ => cF_pos B n _ d, Int.lt_of_le_of_lt (sg_mono (g := fun _ => (n : Int) ^ (n - 1)) fun d _ => cF_le B n _ d) ?_⟩
  rw [sg_const, Int.mul_comm, ← Int.pow_succ, show (n - 1).succ = n by omega]
  have a : (n : Int) ^ n = ((n ^ n : Nat) : Int) := by rw [Int.natCast_pow]
  have b : n ^ n ≤ 60 ^ 60 := Nat.le_trans (Nat.pow_le_pow_left h2 n) (Nat.pow_le_pow_right (by omega) h2)
  have c : (60 : Nat) ^ 60 < 2 ^ 360 := by decide
  rw [a]
  exact Int.lt_of_lt_of_le (Int.ofNat_lt.mpr (Nat.lt_of_le_of_lt b c)) (by decide)
/-- what count_fitting returns -/
def CntIs (ps : List (Int × Int)) (n v : Int) : Prop := ((∃ p ∈ ps, n ≤ p.2) ∧ v = 0) ∨ ((∀ p ∈ ps, p.2 < n) ∧ v = cN (okB ps) n.toNat)
/-- the same as a number -/
noncomputable def cntV (ps : List (Int × Int)) (n : Int) : Int := @ite _ (∃ p ∈ ps, n ≤ p.2) (Classical.propDecidable _) 0 (cN (okB ps) n.toNat)
theorem CntIs.eq {ps : List (Int × Int)} {n v : Int} (h : CntIs ps n v) : v = cntV ps n := by
  unfold cntV
  rcases h with ⟨h1, h2⟩ | ⟨h1, h2⟩
  · exact h2.trans (@if_pos _ (Classical.propDecidable _) h1 _ _ _).symm
  · exact h2.trans (@if_neg _ (Classical.propDecidable _) (fun ⟨p, hp, e⟩ => by have := h1 p hp; omega) _ _ _).symm
theorem cntV_le {ps : List (Int × Int)} {n : Int} (h : 1 ≤ n) (h2 : n ≤ 60) : 0 ≤ cntV ps n ∧ cntV ps n < 2 ^ 360 := by
  by_cases c : ∃ p ∈ ps, n ≤ p.2
  · rw [← CntIs.eq (.inl ⟨c, rfl⟩)]; decide
  · rw [← CntIs.eq (ps := ps) (n := n) (.inr ⟨fun p hp => Int.not_le.mp fun h => c ⟨p, hp, h⟩, rfl⟩)]
    exact cN_le _ (by omega) (by omega)
theorem cntV_zero {ps : List (Int × Int)} {n : Int} (h : 1 ≤ n) (h2 : ∃ p ∈ ps, n ≤ p.2 ∨ (p.2 = 0 ∧ 0 < p.1)) : cntV ps n = 0 := by
  by_cases c : ∃ p ∈ ps, n ≤ p.2
  · exact (CntIs.eq (.inl ⟨c, rfl⟩)).symm
  · rw [← CntIs.eq (ps := ps) (n := n) (.inr ⟨fun p hp => Int.not_le.mp fun h => c ⟨p, hp, h⟩, rfl⟩), cN_back _ (by omega)]
    refine if_neg fun h => ?_
    obtain ⟨p, hp, q⟩ := h2
    rcases q with q | ⟨q1, q2⟩
    · exact c ⟨p, hp, q⟩
    · have := ((okB_iff.mp h).2.2 p hp q1)
      omega
theorem cntV_cW {ps : List (Int × Int)} {n : Nat} (h : 1 ≤ n) (al : ∀ p ∈ ps, p.2 < n) : cntV ps n = if okB ps 0 0 = true then cW (okB ps) n (n - 1) 0 else 0 := by
  rw [← CntIs.eq (ps := ps) (n := n) (.inr ⟨al, rfl⟩), show (n : Int).toNat = n by omega, cN_back _ h]
theorem fl_mem2 {α : Type} {b : Nat → Bool} {o : Nat → α} {n : Nat} {y : α} : y ∈ fl b o n ↔ ∃ u, u < n ∧ b u = true ∧ o u = y := by
  unfold fl
  rw [List.mem_map]
  constructor
  · rintro ⟨u, hu, e⟩
    have := List.mem_filter.mp hu
    exact ⟨u, List.mem_range.mp this.1, this.2, e⟩
  · rintro ⟨u, h1, h2, e⟩
    exact ⟨u, List.mem_filter.mpr ⟨List.mem_range.mpr h1, h2⟩, e⟩
theorem at_of_mem {α : Type} [Inhabited α] {ps : List α} {p : α} (h : p ∈ ps) : ∃ u, u < ps.length ∧ ps.getD u default = p := by
  obtain ⟨u, hu⟩ := List.mem_iff_getElem?.mp h
  exact ⟨u, (List.getElem?_eq_some_iff.mp hu).1, getD_of hu⟩
theorem mem_of_at {α : Type} [Inhabited α] {ps : List α} {u : Nat} (h : u < ps.length) : ps.getD u default ∈ ps := by
  have := List.getElem?_eq_getElem h
  rw [getD_of this]
  exact List.getElem_mem h
theorem min_hi {ps : List (Int × Int)} {i m : Int} (h1 : m ∈ i :: fl (fun u => decide ((ps.getD u default).2 = i)) (fun u => (ps.getD u default).2 - (ps.getD u default).1) ps.length)
    (h2 : ∀ y, y ∈ i :: fl (fun u => decide ((ps.getD u default).2 = i)) (fun u => (ps.getD u default).2 - (ps.getD u default).1) ps.length → m ≤ y) (d : Int) : d ≤ m ↔ Hi ps i d := by
  constructor
  · intro h
    refine ⟨by have := h2 i (.head _); omega, fun p hp e => ?_⟩
    obtain ⟨u, hu, g⟩ := at_of_mem hp
    have := h2 _ (.tail _ (fl_mem2.mpr ⟨u, hu, by rw [g]; exact decide_eq_true e, rfl⟩))
    rw [g] at this
    omega
  · intro h
    rcases List.mem_cons.mp h1 with h1 | h1
    · rw [h1]; exact h.1
    · obtain ⟨u, hu, hb, rfl⟩ := fl_mem2.mp h1
      have e := of_decide_eq_true hb
      have := h.2 _ (mem_of_at hu) e
      omega
theorem max_lo {ps : List (Int × Int)} {i m : Int} (h1 : m ∈ 0 :: fl (fun u => decide ((ps.getD u default).2 = i + 1)) (fun u => (ps.getD u default).2 - (ps.getD u default).1) ps.length)
    (h2 : ∀ y, y ∈ 0 :: fl (fun u => decide ((ps.getD u default).2 = i + 1)) (fun u => (ps.getD u default).2 - (ps.getD u default).1) ps.length → y ≤ m) (d : Int) : m ≤ d ↔ Lo ps i d := by
  constructor
  · intro h
    refine ⟨by have := h2 0 (.head _); omega, fun p hp e => ?_⟩
    obtain ⟨u, hu, g⟩ := at_of_mem hp
    have := h2 _ (.tail _ (fl_mem2.mpr ⟨u, hu, by rw [g]; exact decide_eq_true e, rfl⟩))
    rw [g] at this
    omega
  · intro h
    rcases List.mem_cons.mp h1 with h1 | h1
    · rw [h1]; exact h.1
    · obtain ⟨u, hu, hb, rfl⟩ := fl_mem2.mp h1
      have e := of_decide_eq_true hb
      have := h.2 _ (mem_of_at hu) e
      omega

/-! ### sums_on, count_fitting -/
def sp_sums_on  : Sp := fun vs H Q E => ∃ (a : Addr) (ns : List Int) (L : Lg), vs = [.ref a] ∧ Led H (L) ∧ ((a, .lst (ns.map V.int)) ∈ L) ∧ (ns.length ≤ 1000) ∧ ∀ (p : Addr) (rs : List Int), (rs.length = ns.length + 1) → (∀ k : Nat, k ≤ ns.length → atD rs k = (ns.drop k).sum) → Tr ((p, .lst (rs.map V.int)) :: L) (fun H => Q (.ref p) H)
theorem use_sums_on {L : Lg} {Q : VK} {E : XK} {a : Addr} {ns : List Int} (hm : (a, .lst (ns.map V.int)) ∈ L) (hz : ns.length ≤ 1000) (q : ∀ (p : Addr) (rs : List Int), (rs.length = ns.length + 1) → (∀ k : Nat, k ≤ ns.length → atD rs k = (ns.drop k).sum) → Tr ((p, .lst (rs.map V.int)) :: L) (fun H => Q (.ref p) H)) : Tr L fun H => sp_sums_on [.ref a] H Q E :=
  fun H l => ⟨a, ns, L, rfl, l, hm, hz, q⟩

theorem ok_sums_on (D : Df K mg "sums_on" s_sums_on) (B : Blt mg) : Ok P w K mg base CX0 1 "sums_on" ["numbers"] sp_sums_on := by
  obtain ⟨f, fd, hm, F⟩ := D
  refine ⟨f, fd, hm, F.kp, F.binds (fun _ _ _ _ _ _ us hl => match us, hl with | [_], _ => rfl), FunOkG F sc_sums_on (fun vs H Q E h => ?_) (fun cdv A outer s H vs Q E hr h => ?_), F.lk⟩
  · obtain ⟨_, _, _, rfl, _⟩ := h; rfl
  obtain ⟨a, ns, L, rfl, l, hm, hz, q⟩ := h
  refine ⟨_, PSs.nox (pss_cons (ps_set (i := 1) sc_sums_on.nd rfl (.inl rfl) (pe_lst (pa_cons pe_int pa_nil)))
      (pss_cons (ps_for PassesOwn.never rfl (pi_list (pe_revL (pv 0))) (pg_name (i := 2) sc_sums_on.nd rfl (.inl rfl))
        (pss_one (ps_expr (pe_bm PySem.F.plainAttrs_list PySem.F.slot_list_append PySem.F.type_list_append mt_append (pv 1) (pa_cons (pe_op op_add (pe_ix ix_list (pv 1) (pe_un un_neg pe_int) (fun _ _ => rfl)) (pv 2)) pa_nil)))))
      (pss_one (ps_ret (pe_revL (pv 1)))))), ?_⟩
  rw [show L2.start ["numbers", "found", "number"] [.ref a] = [some (.ref a), none, none] from rfl]
  refine Tr.of ?_ l
  obtain ⟨R_hm, P_hm⟩ := Pick.of_mem hm
  repeat walk_at "hz"
  rename_i c d
  refine t_forK (wk_list (xs := ns.reverse.map V.int)) (fun t ((rs, j2) : (List Int) × Option V) => [some (.ref a), some (.ref c), j2]) (fun t ((rs, j2) : (List Int) × Option V) => (c, .lst (rs.map V.int)) :: (d, .lst (ns.reverse.map V.int)) :: L) (fun t ((rs, j2) : (List Int) × Option V) => rs.length = t + 1 ∧ ∀ k : Nat, k ≤ t → atD rs k = (ns.reverse.take k).sum) ⟨([0], _), ⟨rfl, fun k hk => by rw [show k = 0 by omega]; rfl⟩, rfl, (by walk_at "sb")⟩ (fun _ _ _ => ⟨_, (by walk_at "pk")⟩) ?_ ?_
  · rintro t ⟨rs, j2⟩ v L' ht ⟨hl, hs⟩ ⟨hv, rfl⟩
    try dsimp only at hl hs ⊢
    simp only [List.nil_append, List.cons_append]
    obtain ⟨x, hx, rfl⟩ := map_get hv
    rw [List.length_map, List.length_reverse] at ht
    repeat walk_at "hz"
    refine t_ixL (by walk_at "pk") (at_lastD (-1) (by omega)) ?_
    repeat walk_at "hz"
    have e := atD_last (ns := rs) (by omega)
    rw [show ((rs.length : Int) - 1) = (t : Nat) by omega, hs t (Nat.le_refl _)] at e
    rw [← e]
    have nx : ∀ k : Nat, k ≤ t + 1 → atD (rs ++ [(ns.reverse.take t).sum + x]) k = (ns.reverse.take k).sum := fun k hk => by
      rw [atD_snoc (by omega)]
      by_cases c : (k : Int) = rs.length
      · rw [if_pos c, show k = t + 1 by omega, take_more hx, List.sum_append]
        simp
      · rw [if_neg c]; exact hs k (by omega)
    refine t_pst (_, _) ⟨(by (try dsimp only); (try simp only [List.length_append, List.length_cons, List.length_nil, List.length_map, List.length_singleton]); omega), nx⟩ rfl (by walk_at "sb")
  · rintro ⟨rs, j2⟩ ⟨hl, hs⟩
    try dsimp only at hl hs ⊢
    rw [List.length_map, List.length_reverse] at hl hs
    repeat walk_at "hz"
    refine (q _ rs.reverse (by rw [List.length_reverse, hl]) fun k hk => ?_).sub (by walk_at "sb")
    rw [atD_rev (by omega) (by omega), show ((rs.length : Int) - 1 - k) = ((ns.length - k : Nat) : Int) by omega, hs _ (by omega), rev_take_sum, show ns.length - (ns.length - k) = k by omega]
def sp_count_fitting (C_InvalidNumberError C_InvalidObservationsError : Addr) : Sp := fun vs H Q E => ∃ (x y : V) (T : String) (d : PyData) (L : Lg), vs = [x, y] ∧ Led H (L) ∧ (HasTy L x T) ∧ (Dv L y d) ∧ (obsBad d = none → ∃ b xs ps, ObsGood L y b xs ps) ∧ ((numOk x = true ∧ obsBad d = none) → (∀ (z : V) (N : Lg), Tr ((N ++ L)) (fun H => Q (z) H))) ∧ ((numOk x = false) → Tr (L) (fun H => E (.ref C_InvalidNumberError) none H)) ∧ (∀ (v : Option Nat), (numOk x = true ∧ obsBad d = some v) → ∀ dx : Addr, Tr ((dx, HO.xd [("index", ixV v)]) :: L) (fun H => E (.ref C_InvalidObservationsError) (some dx) H))
theorem use_count_fitting {L : Lg} {Q : VK} {E : XK} {x y : V} {T : String} {d : PyData} (ht : HasTy L x T) (hd : Dv L y d) (hg : obsBad d = none → ∃ b xs ps, ObsGood L y b xs ps) (q : (numOk x = true ∧ obsBad d = none) → (∀ (z : V) (N : Lg), Tr ((N ++ L)) (fun H => Q (z) H))) (x0 : (numOk x = false) → Tr (L) (fun H => E (.ref C_InvalidNumberError) none H)) (x1 : ∀ (v : Option Nat), (numOk x = true ∧ obsBad d = some v) → ∀ dx : Addr, Tr ((dx, HO.xd [("index", ixV v)]) :: L) (fun H => E (.ref C_InvalidObservationsError) (some dx) H)) : Tr L fun H => sp_count_fitting C_InvalidNumberError C_InvalidObservationsError [x, y] H Q E :=
  fun H l => ⟨x, y, T, d, L, rfl, l, ht, hd, hg, q, x0, x1⟩

theorem ok_count_fitting {C_InvalidNumberError C_InvalidObservationsError : Addr} (D : Df K mg "count_fitting" s_count_fitting) (B : Blt mg) (k_check_observations : Ok P w K mg base (L2N.CX P w) 3 "check_observations" ["observations"] (sp_check_observations C_InvalidObservationsError)) (k_check_lines : Ok P w K mg base (L2N.CX P w) 2 "check_lines" ["lines"] (sp_check_lines C_InvalidNumberError)) (k_limits_of : Ok P w K mg base CX0 1 "limits_of" ["lines", "observations"] sp_limits_of) (k_sums_on : Ok P w K mg base CX0 1 "sums_on" ["numbers"] sp_sums_on) : Ok P w K mg base (L2N.CX P w) 4 "count_fitting" ["lines", "observations"] (sp_count_fitting C_InvalidNumberError C_InvalidObservationsError) := by
  obtain ⟨f, fd, hm, F⟩ := D
  refine ⟨f, fd, hm, F.kp, F.binds (fun _ _ _ _ _ _ us hl => match us, hl with | [_, _], _ => rfl), FunOkG F sc_count_fitting (fun vs H Q E h => ?_) (fun cdv A outer s H vs Q E hr h => ?_), F.lk⟩
  · obtain ⟨_, _, _, _, _, rfl, _⟩ := h; rfl
  obtain ⟨x, y, T, d, L, rfl, l, ht, hd, hg, q, x0, x1⟩ := h
  refine ⟨_, (pss_cons (ps_expr (pe_callG k_check_lines (hr.mono (by omega)) (fun σ => L2N.passAt (L2N.takes_of rfl rfl rfl rfl) σ) (pa_cons (pv 0) pa_nil)))
      (pss_cons (ps_expr (pe_callG k_check_observations (hr.mono (by omega)) (fun σ => L2N.passAt (L2N.takes_of rfl rfl rfl rfl) σ) (pa_cons (pv 1) pa_nil)))
      (PSs.nox (pss_cons (ps_set (i := 2) sc_count_fitting.nd rfl (.inl rfl) (pe_callG k_limits_of (hr.mono (by omega)) pas0 (pa_cons (pv 0) (pa_cons (pv 1) pa_nil))))
      (pss_cons (ps_if (pt_cmpR op_isN1 (pv 2) pe_non (nomark _)) (pss_one (ps_ret pe_int))
        pss_nil)
      (pss_cons (ps_asg (pv 2) (pg_tup rfl (pgs_cons (pg_name (i := 3) sc_count_fitting.nd rfl (.inl rfl)) (pgs_cons (pg_name (i := 4) sc_count_fitting.nd rfl (.inl rfl)) pgs_nil))))
      (pss_cons (ps_set (i := 5) sc_count_fitting.nd rfl (.inl rfl) (pe_op op_cat (pe_lst (pa_cons (pe_callTy c_int rfl B.int_ boot_int (pa_cons (pe_and (pe_cmpR op_eq (pe_ix ix_list (pv 4) pe_int (fun _ _ => rfl)) pe_int (nomark _)) (pe_one (pe_cmpR op_eq (pe_ix ix_list (pv 3) pe_int (fun _ _ => rfl)) pe_int (nomark _)))) pa_nil)) pa_nil)) (pe_op op_rep (pe_lst (pa_cons pe_int pa_nil)) (pe_op op_sub (pv 0) pe_int))))
      (pss_cons (ps_for PassesOwn.never rfl (pi_range2 rfl B.range_ (pa_cons pe_int (pa_cons (pv 0) pa_nil))) (pg_name (i := 6) sc_count_fitting.nd rfl (.inl rfl))
        (pss_cons (ps_set (i := 7) sc_count_fitting.nd rfl (.inl rfl) (pe_callG k_sums_on (hr.mono (by omega)) pas0 (pa_cons (pv 5) pa_nil)))
      (pss_cons (ps_set (i := 5) sc_count_fitting.nd rfl (.inl rfl) (pe_op op_rep (pe_lst (pa_cons pe_int pa_nil)) (pv 0)))
      (pss_one (ps_for PassesOwn.never rfl (pi_range2 rfl B.range_ (pa_cons (pe_ix ix_list (pv 3) (pv 6) (fun _ _ => rfl)) (pa_cons (pe_op op_add (pe_ix ix_list (pv 4) (pv 6) (fun _ _ => rfl)) pe_int) pa_nil))) (pg_name (i := 8) sc_count_fitting.nd rfl (.inl rfl))
        (pss_one (ps_asg (pe_ix ix_list (pv 7) (pe_callB (c_max2 rfl) rfl B.max_ boot_max (pa_cons pe_int (pa_cons (pe_op op_sub (pv 8) pe_int) pa_nil))) (fun _ _ => rfl)) (pg_sub (pv 5) (pv 8) set_list))))))))
      (pss_one (ps_ret (pe_callB (cr_sum rfl) rfl B.sum_ boot_sum (pa_cons (pv 5) pa_nil)))))))))))), ?_⟩
  rw [show L2.start ["lines", "observations", "limits", "least", "greatest", "counts", "line", "sums", "depth"] [x, y] = [some x, some y, none, none, none, none, none, none, none] from rfl]
  refine Tr.of ?_ l
  repeat walk_at "hz"
  refine use_check_lines ht (fun e1 => ?_) x0
  repeat walk_at "hz"
  refine use_check_observations hd (fun e2 => ?_) fun v e => x1 v ⟨e1, e⟩
  obtain ⟨b, xs, ps, rfl, hm, hx, hb, hl, hs⟩ := hg e2
  obtain ⟨R_hm, P_hm⟩ := Pick.of_mem hm
  have q0 := q ⟨e1, e2⟩
  obtain ⟨n, rfl⟩ : ∃ n, x = .int n := by cases x <;> first | exact ⟨_, rfl⟩ | cases e1
  have hn : 1 ≤ n ∧ n ≤ 60 := by
    rw [numOk_int, Bool.and_eq_true, decide_eq_true_eq, decide_eq_true_eq] at e1
    exact e1
  repeat walk_at "hz"
  have q : ∀ v : Int, CntIs ps n v → Tr L (fun H => Q (.int v) H) := fun v _ => q0 (.int v) []
  obtain ⟨h0, h1⟩ := id hn
  refine use_limits_of hm hx hb hn fun v N hv => ?_
  repeat walk_at "hz"
  cases hv with
  | no hp hq =>
    repeat walk_at "hz"
    exact (q 0 (.inl ⟨⟨_, hp, hq⟩, rfl⟩)).sub (by walk_at "sb")
  | yes al hl =>
    rename_i T a c lo hi
    have e1 := hl.l1
    have e2 := hl.l2
    obtain ⟨N, rfl⟩ : ∃ N : Nat, n = (N : Int) := ⟨n.toNat, by omega⟩
    have ok : ∀ i d : Nat, i < N → (okB ps i d = true ↔ atD lo i ≤ d ∧ (d : Int) ≤ atD hi i) := fun i d hi2 => by
      rw [okB_iff, hl.lo i d (by omega) (by omega), hl.hi i d (by omega) (by omega)]
    repeat walk_at "hz"
    refine (show Tr (_ :: _ :: _ :: L) _ from ?_)
    have fin : ∀ e : Int, (e = if atD hi 0 = 0 ∧ atD lo 0 = 0 then 1 else 0) → (e :: List.replicate ((N : Int) - 1).toNat 0).length = N ∧ ∀ d : Nat, d < N → atD (e :: List.replicate ((N : Int) - 1).toNat 0) d = cF (okB ps) N 0 d := fun e he => by
      refine ⟨by rw [List.length_cons, List.length_replicate]; omega, fun d hd => ?_⟩
      have b := hl.bounds (i := 0) (by omega) (by omega)
      have o : okB ps 0 0 = true ↔ atD lo 0 ≤ 0 ∧ 0 ≤ atD hi 0 := ok 0 0 (by omega)
      rw [cF]
      match d with
      | 0 =>
        show e = _
        rw [he]
        by_cases c : okB ps 0 0 = true
        · have := o.mp c
          exact (if_pos (show atD hi 0 = 0 ∧ atD lo 0 = 0 by constructor <;> omega)).trans (if_pos ⟨rfl, c⟩).symm
        · exact (if_neg (show ¬ (atD hi 0 = 0 ∧ atD lo 0 = 0) from fun h => c (o.mpr (by constructor <;> omega)))).trans (if_neg (fun h => c h.2)).symm
      | d + 1 =>
        rw [if_neg (fun h => nomatch h.1)]
        exact atD_rep (n := ((N : Int) - 1).toNat) (k := (d : Int)) (by omega) (by omega)
    refine' t_joinO (fun ds p _ => (p, .lst (ds.map V.int)) :: (T, .tup [V.ref a, V.ref c]) :: (a, .lst (lo.map V.int)) :: (c, .lst (hi.map V.int)) :: L) (fun ds _ => ds.length = N ∧ ∀ d : Nat, d < N → atD ds d = cF (okB ps) N 0 d) (fun join => ?k) ?main
    case k =>
      refine t_iteD (fun c1 => ?_) fun c1 => ?_
      · repeat walk_at "hz"
        refine t_rep (by walk_at "pk") (by omega) (by omega) (by rw [sizeLine_eq]; simp; omega) fun z => ?_
        refine Tr.lcast (rep_ints _ 0) ?_
        refine t_cat (by walk_at "pk") (by walk_at "pk") (by rw [sizeLine_eq, List.length_map, List.length_replicate]; simp; omega) fun z2 => ?_
        repeat walk_at "hz"
        exact join ((if decide (atD lo 0 = 0) = true then 1 else 0) :: List.replicate ((N : Int) - 1).toNat 0) z2 (.lst []) _ (fin _ (by by_cases c : atD lo 0 = 0 <;> simp [c, c1])) (by walk_at "sb")
      · repeat walk_at "hz"
        refine t_rep (by walk_at "pk") (by omega) (by omega) (by rw [sizeLine_eq]; simp; omega) fun z => ?_
        refine Tr.lcast (rep_ints _ 0) ?_
        refine t_cat (by walk_at "pk") (by walk_at "pk") (by rw [sizeLine_eq, List.length_map, List.length_replicate]; simp; omega) fun z2 => ?_
        repeat walk_at "hz"
        exact join (0 :: List.replicate ((N : Int) - 1).toNat 0) z2 (.lst []) _ (fin _ (by rw [if_neg (fun h => c1 h.1)])) (by walk_at "sb")
    case main =>
      intro ds p o ⟨dl, dv⟩
      have bd : ∀ i : Int, 0 ≤ i → i < N → 0 ≤ atD lo i ∧ atD lo i ≤ i + 1 ∧ atD hi i ≤ i ∧ -(2 ^ 41) ≤ atD hi i := fun i i0 i1 => by
        have b1 := hl.bounds i0 i1
        refine ⟨b1.1, (hl.lo i _ i0 i1).mpr ⟨by omega, fun p hp _ => ?_⟩, b1.2, (hl.hi i _ i0 i1).mpr ⟨by omega, fun p hp _ => ?_⟩⟩
        · have := (hb p hp).1; omega
        · have := hs p hp; omega
      repeat walk_at "hz"
      refine t_forK wk_range (fun t ((p, ds, j6, j7, j8) : Addr × (List Int) × Option V × Option V × Option V) => [some (.int N), some (.ref b), some (.ref T), some (.ref a), some (.ref c), some (.ref p), j6, j7, j8]) (fun t ((p, ds, j6, j7, j8) : Addr × (List Int) × Option V × Option V × Option V) => (p, .lst (ds.map V.int)) :: (T, .tup [V.ref a, V.ref c]) :: (a, .lst (lo.map V.int)) :: (c, .lst (hi.map V.int)) :: L) (fun t ((p, ds, j6, j7, j8) : Addr × (List Int) × Option V × Option V × Option V) => ds.length = N ∧ ∀ d : Nat, d < N → atD ds d = cF (okB ps) N t d) ⟨(p, ds, _, _, _), ⟨dl, dv⟩, rfl, (by walk_at "sb")⟩ (fun _ _ _ => trivial) ?_ ?_
      · clear dl dv
        rintro t ⟨p, ds, j6, j7, j8⟩ v L' ht ⟨dl, dv⟩ ⟨rfl, rfl⟩
        try dsimp only at dl dv ⊢
        simp only [List.nil_append, List.cons_append]
        have bi := bd (1 + t) (by omega) (by omega)
        repeat walk_at "hz"
        refine use_sums_on (by walk_at "mb") (by omega) fun s rs rl rv => ?_
        repeat walk_at "hz"
        rename_i oo
        refine t_rep (by walk_at "pk") (by omega) (by omega) (by rw [sizeLine_eq]; simp; omega) fun z => ?_
        refine Tr.lcast (rep_ints _ 0) ?_
        repeat walk_at "hz"
        have dn : (N : Int).toNat = N := by omega
        have nv : ∀ d : Nat, d < N → okB ps (t + 1) d = true → atD rs (max 0 ((d : Int) - 1)) = cF (okB ps) N (t + 1) d := fun d hd ho => by
          have hd0 : d ≤ (t + 1 : Nat) := by
            have := ((ok (t + 1) d (by omega)).mp ho).2
            have := (bd ((t + 1 : Nat) : Int) (by omega) (by omega)).2.2.1
            omega
          rw [cF, if_pos ho, show max 0 ((d : Int) - 1) = ((d - 1 : Nat) : Int) by omega, rv _ (by omega), drop_sg, dl]
          refine sg_congr fun j hj => ?_
          by_cases c : d ≤ j + 1
          · rw [if_pos c, if_pos (by omega)]; exact dv j hj
          · rw [if_neg c, if_neg (by omega)]
        generalize hlo : atD lo (1 + (t : Int)) = l0 at bi ⊢
        generalize hhi : atD hi (1 + (t : Int)) = h0 at bi ⊢
        have ok1 : ∀ d : Nat, okB ps (t + 1) d = true ↔ l0 ≤ d ∧ (d : Int) ≤ h0 := fun d => by
          have := ok (t + 1) d (by omega)
          rw [show ((t + 1 : Nat) : Int) = 1 + (t : Int) by omega, hlo, hhi] at this
          exact this
        refine t_forK wk_range (fun u ((cs, i8) : (List Int) × Option V) => [some (.int N), some (.ref b), some (.ref T), some (.ref a), some (.ref c), some (.ref z), some (.int (1 + t)), some (.ref s), i8]) (fun u ((cs, i8) : (List Int) × Option V) => (z, .lst (cs.map V.int)) :: (s, .lst (rs.map V.int)) :: (T, .tup [V.ref a, V.ref c]) :: (a, .lst (lo.map V.int)) :: (c, .lst (hi.map V.int)) :: L) (fun u ((cs, i8) : (List Int) × Option V) => cs.length = N ∧ ∀ d : Nat, d < N → atD cs d = if l0 ≤ d ∧ (d : Int) < l0 + u then cF (okB ps) N (t + 1) d else 0) ⟨(List.replicate (N : Int).toNat 0, _), ⟨by rw [List.length_replicate, dn], fun d hd => by rw [if_neg (by omega), atD_rep (by omega) (by omega)]⟩, rfl, (by walk_at "sb")⟩ (fun _ _ _ => trivial) ?_ ?_
        · rintro u ⟨cs, i8⟩ v L' hu ⟨cl, cv⟩ ⟨rfl, rfl⟩
          try dsimp only at cl cv ⊢
          simp only [List.nil_append, List.cons_append]
          repeat walk_at "hz"
          refine t_setI (by walk_at "pk") (by omega) (by omega) ?_
          repeat walk_at "hz"
          have ex : l0 + (u : Int) = ((l0 + u).toNat : Int) := by omega
          have fv := nv (l0 + u).toNat (by omega) ((ok1 _).mpr ⟨by omega, by omega⟩)
          rw [← ex] at fv
          have nx : (cs.set (l0 + (u : Int)).toNat (atD rs (max 0 (l0 + (u : Int) - 1)))).length = N ∧ ∀ d : Nat, d < N → atD (cs.set (l0 + (u : Int)).toNat (atD rs (max 0 (l0 + (u : Int) - 1)))) d = if l0 ≤ d ∧ (d : Int) < l0 + (u + 1 : Nat) then cF (okB ps) N (t + 1) d else 0 := by
            refine ⟨by rw [List.length_set]; exact cl, fun d hd => ?_⟩
            rw [atD_set (by omega) (by omega) (by omega)]
            by_cases c : (d : Int) = l0 + u
            · rw [if_pos c, if_pos (by omega), fv]
              congr 1; omega
            · rw [if_neg c, cv d hd]
              by_cases c2 : l0 ≤ d ∧ (d : Int) < l0 + u
              · rw [if_pos c2, if_pos (by omega)]
              · rw [if_neg c2, if_neg (by omega)]
          refine t_pst (_, _) nx rfl (by walk_at "sb")
        · rintro ⟨cs, i8⟩ ⟨cl, cv⟩
          try dsimp only at cl cv ⊢
          have nx : ∀ d : Nat, d < N → atD cs d = cF (okB ps) N (t + 1) d := fun d hd => by
            rw [cv d hd]
            by_cases c : okB ps (t + 1) d = true
            · have := (ok1 d).mp c
              rw [if_pos (by omega)]
            · rw [if_neg (fun h => c ((ok1 d).mpr ⟨h.1, by omega⟩)), cF, if_neg c]
          repeat walk_at "hz"
          refine t_pst (z, cs, _, _, _) ⟨cl, nx⟩ rfl (by walk_at "sb")
      · rintro ⟨p, ds, j6, j7, j8⟩ ⟨dl, dv⟩
        try dsimp only at dl dv ⊢
        repeat walk_at "hz"
        refine t_sum (by walk_at "pk") ?_
        repeat walk_at "hz"
        refine (q _ (.inr ⟨al, ?_⟩)).sub (by walk_at "sb")
        rw [sum_sg, dl]
        show _ = sg _ _
        rw [show (N : Int).toNat = N by omega]
        refine sg_congr fun d hd => ?_
        rw [show N - 1 = ((N : Int) - 1).toNat by omega]
        exact dv d hd

/-! ### the bounds of all outlines that fit -/
/-- a list of depths within the limits -/
structure Within (n : Int) (lo hi : Int → Int) (d : Int → Int) : Prop where
  up : ∀ i, 0 < i → i < n → d i ≤ d (i - 1) + 1
  lo : ∀ i, 0 ≤ i → i < n → lo i ≤ d i
  hi : ∀ i, 0 ≤ i → i < n → d i ≤ hi i
/-- limits carried on from line to line -/
structure Carried (n : Int) (lo hi lo' hi' : Int → Int) : Prop where
  h0 : hi' 0 = hi 0
  hs : ∀ i, 0 < i → i < n → hi' i = min (hi i) (hi' (i - 1) + 1)
  l0 : lo' (n - 1) = lo (n - 1)
  ls : ∀ i, 0 ≤ i → i < n - 1 → lo' i = max (lo i) (lo' (i + 1) - 1)
theorem Carried.leHi {n : Int} {lo hi lo' hi' d : Int → Int} (c : Carried n lo hi lo' hi') (w : Within n lo hi d) : ∀ k : Nat, (k : Int) < n → d k ≤ hi' k
  | 0, h => by
    have := w.hi 0 (by omega) h
    have := c.h0
    show d 0 ≤ hi' 0
    omega
  | k + 1, h => by
    have a := c.leHi w k (by omega)
    have b := c.hs ((k + 1 : Nat) : Int) (by omega) h
    have u := w.up ((k + 1 : Nat) : Int) (by omega) h
    have v := w.hi ((k + 1 : Nat) : Int) (by omega) h
    rw [show ((k + 1 : Nat) : Int) - 1 = (k : Int) by omega] at b u
    omega
theorem Carried.geLo {n : Int} {lo hi lo' hi' d : Int → Int} (c : Carried n lo hi lo' hi') (w : Within n lo hi d) : ∀ k : Nat, (k : Int) < n → lo' (n - 1 - k) ≤ d (n - 1 - k)
  | 0, h => by
    have := w.lo (n - 1) (by omega) (by omega)
    have := c.l0
    rw [show n - 1 - ((0 : Nat) : Int) = n - 1 by omega]
    omega
  | k + 1, h => by
    have a := c.geLo w k (by omega)
    have b := c.ls (n - 1 - ((k + 1 : Nat) : Int)) (by omega) (by omega)
    have u := w.up (n - 1 - (k : Int)) (by omega) (by omega)
    have v := w.lo (n - 1 - ((k + 1 : Nat) : Int)) (by omega) (by omega)
    rw [show n - 1 - ((k + 1 : Nat) : Int) + 1 = n - 1 - (k : Int) by omega] at b
    rw [show n - 1 - (k : Int) - 1 = n - 1 - ((k + 1 : Nat) : Int) by omega] at u
    omega
theorem Carried.bound {n : Int} {lo hi lo' hi' d : Int → Int} (c : Carried n lo hi lo' hi') (w : Within n lo hi d) {i : Int} (h0 : 0 ≤ i) (h1 : i < n) : lo' i ≤ d i ∧ d i ≤ hi' i := by
  have a := c.leHi w i.toNat (by omega)
  have b := c.geLo w (n - 1 - i).toNat (by omega)
  rw [Int.toNat_of_nonneg h0] at a
  rw [show n - 1 - ((n - 1 - i).toNat : Int) = i by omega] at b
  exact ⟨b, a⟩
theorem Carried.low {n : Int} {lo hi lo' hi' : Int → Int} (c : Carried n lo hi lo' hi') {i : Int} (h0 : 0 ≤ i) (h1 : i < n) : lo i ≤ lo' i := by
  by_cases e : i = n - 1
  · rw [e, c.l0]; exact Int.le_refl _
  · have := c.ls i h0 (by omega); omega
theorem Carried.high {n : Int} {lo hi lo' hi' : Int → Int} (c : Carried n lo hi lo' hi') {i : Int} (h0 : 0 ≤ i) (h1 : i < n) : hi' i ≤ hi i := by
  by_cases e : i = 0
  · rw [e, c.h0]; exact Int.le_refl _
  · have := c.hs i (by omega) h1; omega
/-- when the bounds leave room, both of them are lists within the limits -/
theorem Carried.both {n : Int} {lo hi lo' hi' : Int → Int} (c : Carried n lo hi lo' hi') (h : ∀ i, 0 ≤ i → i < n → lo' i ≤ hi' i) : Within n lo hi hi' ∧ Within n lo hi lo' :=
  ⟨⟨fun i a b => by have := c.hs i a b; omega, fun i a b => by have := c.low a b; have := h i a b; omega, fun i a b => c.high a b⟩,
   ⟨fun i a b => by have := c.ls (i - 1) (by omega) (by omega); rw [show i - 1 + 1 = i by omega] at this; omega, fun i a b => c.low a b, fun i a b => by have := c.high a b; have := h i a b; omega⟩⟩
/-- is there a list within the limits -/
theorem Carried.some {n : Int} {lo hi lo' hi' : Int → Int} (c : Carried n lo hi lo' hi') : (∃ d, Within n lo hi d) ↔ ∀ i, 0 ≤ i → i < n → lo' i ≤ hi' i :=
  ⟨fun ⟨d, w⟩ i a b => by have := c.bound w a b; omega, fun h => ⟨hi', (c.both h).1⟩⟩
/-! ### the bounds by the observations alone -/
/-- from above, by all observations of lines up to this one -/
def HiB (ps : List (Int × Int)) (i d : Int) : Prop := d ≤ i ∧ ∀ p ∈ ps, p.2 ≤ i → d ≤ i - p.1
/-- from below, by all observations of later lines -/
def LoB (ps : List (Int × Int)) (i d : Int) : Prop := 0 ≤ d ∧ ∀ p ∈ ps, i < p.2 → i + 1 - p.1 ≤ d
def hiV (i : Int) : List (Int × Int) → Int
  | [] => i
  | p :: ps => if p.2 ≤ i then min (i - p.1) (hiV i ps) else hiV i ps
def loV (i : Int) : List (Int × Int) → Int
  | [] => 0
  | p :: ps => if i < p.2 then max (i + 1 - p.1) (loV i ps) else loV i ps
theorem hiV_iff {i d : Int} : ∀ {ps : List (Int × Int)}, d ≤ hiV i ps ↔ HiB ps i d
  | [] => ⟨fun h => ⟨h, fun _ h => absurd h (by simp)⟩, fun h => h.1⟩
  | p :: ps => by
    have ih := hiV_iff (i := i) (d := d) (ps := ps)
    rw [hiV]
    constructor
    · intro h
      by_cases c : p.2 ≤ i
      · rw [if_pos c] at h
        obtain ⟨h1, h2⟩ := ih.mp (by omega)
        refine ⟨h1, fun q hq e => ?_⟩
        rcases List.mem_cons.mp hq with rfl | hq
        · omega
        · exact h2 q hq e
      · rw [if_neg c] at h
        obtain ⟨h1, h2⟩ := ih.mp h
        refine ⟨h1, fun q hq e => ?_⟩
        rcases List.mem_cons.mp hq with rfl | hq
        · exact absurd e c
        · exact h2 q hq e
    · rintro ⟨h1, h2⟩
      have h3 := ih.mpr ⟨h1, fun q hq e => h2 q (.tail _ hq) e⟩
      split
      · rename_i c
        have := h2 p (.head _) c
        omega
      · exact h3
theorem loV_iff {i d : Int} : ∀ {ps : List (Int × Int)}, loV i ps ≤ d ↔ LoB ps i d
  | [] => ⟨fun h => ⟨h, fun _ h => absurd h (by simp)⟩, fun h => h.1⟩
  | p :: ps => by
    have ih := loV_iff (i := i) (d := d) (ps := ps)
    rw [loV]
    constructor
    · intro h
      by_cases c : i < p.2
      · rw [if_pos c] at h
        obtain ⟨h1, h2⟩ := ih.mp (by omega)
        refine ⟨h1, fun q hq e => ?_⟩
        rcases List.mem_cons.mp hq with rfl | hq
        · omega
        · exact h2 q hq e
      · rw [if_neg c] at h
        obtain ⟨h1, h2⟩ := ih.mp h
        refine ⟨h1, fun q hq e => ?_⟩
        rcases List.mem_cons.mp hq with rfl | hq
        · exact absurd e c
        · exact h2 q hq e
    · rintro ⟨h1, h2⟩
      have h3 := ih.mpr ⟨h1, fun q hq e => h2 q (.tail _ hq) e⟩
      split
      · rename_i c
        have := h2 p (.head _) c
        omega
      · exact h3
theorem same_le {a b : Int} (h : ∀ d, d ≤ a ↔ d ≤ b) : a = b := by
  have := (h a).mp (Int.le_refl _)
  have := (h b).mpr (Int.le_refl _)
  omega
theorem same_ge {a b : Int} (h : ∀ d, a ≤ d ↔ b ≤ d) : a = b := by
  have := (h a).mpr
  have := (h b).mp
  have := (h a).mp (Int.le_refl _)
  have := (h b).mpr (Int.le_refl _)
  omega
theorem Carried.hiAll {n : Int} {lo hi lo' hi' : Int → Int} (c : Carried n lo hi lo' hi') (d : Int) : ∀ k : Nat, (k : Int) < n → (d ≤ hi' k ↔ ∀ j : Int, 0 ≤ j → j ≤ k → d - (k - j) ≤ hi j)
  | 0, h => by
    have e := c.h0
    constructor
    · intro g j j0 j1
      obtain rfl : j = 0 := by omega
      have : d ≤ hi' 0 := g
      omega
    · intro g
      have := g 0 (by omega) (by omega)
      show d ≤ hi' 0
      omega
  | k + 1, h => by
    have ih := fun d => c.hiAll d k (by omega)
    have b := c.hs ((k + 1 : Nat) : Int) (by omega) h
    rw [show ((k + 1 : Nat) : Int) - 1 = (k : Int) by omega] at b
    constructor
    · intro g j j0 j1
      by_cases e : j = ((k + 1 : Nat) : Int)
      · subst e; omega
      · have := (ih (d - 1)).mp (by omega) j j0 (by omega)
        omega
    · intro g
      have g1 := g ((k + 1 : Nat) : Int) (by omega) (Int.le_refl _)
      have g2 := (ih (d - 1)).mpr fun j j0 j1 => by
        have := g j j0 (by omega)
        omega
      omega
theorem Carried.loAll {n : Int} {lo hi lo' hi' : Int → Int} (c : Carried n lo hi lo' hi') (d : Int) : ∀ k : Nat, (k : Int) < n → (lo' (n - 1 - k) ≤ d ↔ ∀ j : Int, n - 1 - k ≤ j → j < n → lo j ≤ d + (j - (n - 1 - k)))
  | 0, h => by
    have e := c.l0
    rw [show n - 1 - ((0 : Nat) : Int) = n - 1 by omega]
    constructor
    · intro g j j0 j1
      obtain rfl : j = n - 1 := by omega
      omega
    · intro g
      have := g (n - 1) (by omega) (by omega)
      omega
  | k + 1, h => by
    have ih := fun d => c.loAll d k (by omega)
    have b := c.ls (n - 1 - ((k + 1 : Nat) : Int)) (by omega) (by omega)
    rw [show n - 1 - ((k + 1 : Nat) : Int) + 1 = n - 1 - (k : Int) by omega] at b
    constructor
    · intro g j j0 j1
      by_cases e : j = n - 1 - ((k + 1 : Nat) : Int)
      · subst e; omega
      · have := (ih (d + 1)).mp (by omega) j (by omega) j1
        omega
    · intro g
      have g1 := g (n - 1 - ((k + 1 : Nat) : Int)) (by omega) (by omega)
      have g2 := (ih (d + 1)).mpr fun j j0 j1 => by
        have := g j (by omega) (by omega)
        omega
      omega
theorem Carried.hiV {n : Int} {ps : List (Int × Int)} {lo hi lo' hi' : List Int} (h : Lims ps n lo hi) (sm : Sm ps) (c : Carried n (atD lo) (atD hi) (atD lo') (atD hi')) {i : Int} (h0 : 0 ≤ i) (h1 : i < n) : atD hi' i = hiV i ps := by
  obtain ⟨k, rfl⟩ : ∃ k : Nat, i = (k : Int) := ⟨i.toNat, by omega⟩
  refine same_le fun d => ?_
  rw [hiV_iff, c.hiAll d k h1]
  constructor
  · intro g
    refine ⟨?_, fun p hp e => ?_⟩
    · have := (h.hi 0 _ (by omega) (by omega)).mp (g 0 (by omega) h0)
      have := this.1
      omega
    · have b := (sm p hp).2.2.1
      have := (h.hi p.2 _ b (by omega)).mp (g p.2 b e)
      have := this.2 p hp rfl
      omega
  · intro g j j0 j1
    refine (h.hi j _ j0 (by omega)).mpr ⟨by have := g.1; omega, fun p hp e => ?_⟩
    have := g.2 p hp (by omega)
    omega
theorem Carried.loV {n : Int} {ps : List (Int × Int)} {lo hi lo' hi' : List Int} (h : Lims ps n lo hi) (al : ∀ p ∈ ps, p.2 < n) (c : Carried n (atD lo) (atD hi) (atD lo') (atD hi')) {i : Int} (h0 : 0 ≤ i) (h1 : i < n) : atD lo' i = loV i ps := by
  refine same_ge fun d => ?_
  have := c.loAll d (n - 1 - i).toNat (by omega)
  rw [show n - 1 - ((n - 1 - i).toNat : Int) = i by omega] at this
  rw [loV_iff, this]
  constructor
  · intro g
    refine ⟨?_, fun p hp e => ?_⟩
    · have := (h.lo i _ h0 h1).mp (g i (Int.le_refl _) h1)
      have := this.1
      omega
    · have b := al p hp
      have := (h.lo (p.2 - 1) _ (by omega) (by omega)).mp (g (p.2 - 1) (by omega) (by omega))
      have := this.2 p hp (by omega)
      omega
  · intro g j j0 j1
    refine (h.lo j _ (by omega) j1).mpr ⟨by have := g.1; omega, fun p hp e => ?_⟩
    have := g.2 p hp (by omega)
    omega
/-- the bounds, or that there are none -/
def bndL (ps : List (Int × Int)) (n : Int) : Option (List (Int × Int)) :=
  if (∀ p ∈ ps, p.2 < n) ∧ ∀ i ∈ rgI 0 n, loV i ps ≤ hiV i ps then some ((rgI 0 n).map fun i => (loV i ps, hiV i ps)) else none
theorem rgI_mem {a b i : Int} : i ∈ rgI a b ↔ a ≤ i ∧ i < b := by
  unfold rgI
  rw [List.mem_map]
  constructor
  · rintro ⟨k, hk, rfl⟩
    have := List.mem_range.mp hk
    omega
  · rintro ⟨h1, h2⟩
    exact ⟨(i - a).toNat, List.mem_range.mpr (by omega), by omega⟩
theorem bndL_some {ps : List (Int × Int)} {n : Int} (h1 : ∀ p ∈ ps, p.2 < n) (h2 : ∀ i, 0 ≤ i → i < n → loV i ps ≤ hiV i ps) : bndL ps n = some ((rgI 0 n).map fun i => (loV i ps, hiV i ps)) :=
  if_pos ⟨h1, fun i hi => h2 i (rgI_mem.mp hi).1 (rgI_mem.mp hi).2⟩
theorem bndL_out {ps : List (Int × Int)} {n : Int} {p : Int × Int} (h1 : p ∈ ps) (h2 : n ≤ p.2) : bndL ps n = none :=
  if_neg fun h => by have := h.1 p h1; omega
theorem bndL_no {ps : List (Int × Int)} {n i : Int} (h0 : 0 ≤ i) (h1 : i < n) (h2 : hiV i ps < loV i ps) : bndL ps n = none :=
  if_neg fun h => by have := h.2 i (rgI_mem.mpr ⟨h0, h1⟩); omega
theorem bndL_ok {ps : List (Int × Int)} {n : Int} {ys : List (Int × Int)} (h : bndL ps n = some ys) : (∀ p ∈ ps, p.2 < n) ∧ (∀ i, 0 ≤ i → i < n → loV i ps ≤ hiV i ps) ∧ ys = (rgI 0 n).map fun i => (loV i ps, hiV i ps) := by
  unfold bndL at h
  split at h
  · rename_i c
    exact ⟨c.1, fun i a b => c.2 i (rgI_mem.mpr ⟨a, b⟩), (Option.some.inj h).symm⟩
  · cases h
theorem zip_bnd {n : Int} {ps : List (Int × Int)} {lo hi lo' hi' : List Int} (h : Lims ps n lo hi) (sm : Sm ps) (al : ∀ p ∈ ps, p.2 < n) (l1 : (lo'.length : Int) = n) (l2 : (hi'.length : Int) = n) (c : Carried n (atD lo) (atD hi) (atD lo') (atD hi')) :
    lo'.zip hi' = (rgI 0 n).map fun i => (loV i ps, hiV i ps) := by
  refine List.ext_getElem? fun k => ?_
  by_cases b : (k : Int) < n
  · have g1 := atD_get (ns := lo') (i := (k : Int)) (by omega) (by omega)
    have g2 := atD_get (ns := hi') (i := (k : Int)) (by omega) (by omega)
    rw [c.loV h al (by omega) b] at g1
    rw [c.hiV h sm (by omega) b] at g2
    rw [Int.toNat_natCast] at g1 g2
    rw [show (lo'.zip hi')[k]? = some (loV k ps, hiV k ps) from List.getElem?_zip_eq_some.mpr ⟨g1, g2⟩, List.getElem?_map, show (rgI 0 n)[k]? = _ from rgI_get (by omega)]
    show _ = some (loV (0 + (k : Int)) ps, hiV (0 + (k : Int)) ps)
    rw [Int.zero_add]
  · rw [List.getElem?_eq_none (by rw [List.length_zip]; omega), List.getElem?_eq_none (by rw [List.length_map, rgI_len]; omega)]
/-- what a search for bounds returns, and what is new -/
inductive BdV (ps : List (Int × Int)) (n : Int) : V → Lg → Prop where
  | no {N : Lg} : bndL ps n = none → BdV ps n .non N
  | yes {T : Addr} {us : List V} {N : Lg} {ys : List (Int × Int)} : bndL ps n = some ys → Prs N us ys → BdV ps n (.ref T) ((T, .lst us) :: N)
/-- the same as data -/
def bdD (ps : List (Int × Int)) (n : Int) : PyData := match bndL ps n with
  | none => .none
  | some ys => prsD ys
theorem BdV.dv {ps : List (Int × Int)} {n : Int} {v : V} {N M : Lg} (h : BdV ps n v N) (s : ∀ x ∈ N, x ∈ M) : Dv M v (bdD ps n) := by
  unfold bdD
  cases h with
  | no h => rw [h]; exact .non
  | yes h1 h2 => rw [h1]; exact ((h2.mono fun x hx => s x (.tail _ hx)).dt (s _ (.head _))).dv
theorem loV_pos (i : Int) (ps : List (Int × Int)) : 0 ≤ loV i ps := (loV_iff.mp (Int.le_refl _)).1
theorem hiV_le (i : Int) (ps : List (Int × Int)) : hiV i ps ≤ i := (hiV_iff.mp (Int.le_refl _)).1
theorem bndL_sm {ps ys : List (Int × Int)} {n : Int} (hn : n ≤ 60) (h : bndL ps n = some ys) : Sm ys ∧ (ys.length ≤ 60) ∧ ∀ y ∈ ys, 0 ≤ y.1 ∧ y.1 ≤ y.2 ∧ y.2 < 60 := by
  obtain ⟨h1, h2, rfl⟩ := bndL_ok h
  have al : ∀ y ∈ (rgI 0 n).map fun i => (loV i ps, hiV i ps), 0 ≤ y.1 ∧ y.1 ≤ y.2 ∧ y.2 < 60 := fun y hy => by
    obtain ⟨i, hi, rfl⟩ := List.mem_map.mp hy
    have hi := rgI_mem.mp hi
    have a := loV_pos i ps
    have b := hiV_le i ps
    have c := h2 i hi.1 hi.2
    dsimp only
    omega
  refine ⟨fun y hy => ?_, by rw [List.length_map, rgI_len]; omega, al⟩
  have := al y hy
  omega
theorem bdD_sz (ps : List (Int × Int)) {n : Int} (hn : n ≤ 60) : Sz 20000 2 (bdD ps n) := by
  unfold bdD
  cases e : bndL ps n with
  | none => exact Sz.none.le (by decide) (by decide)
  | some ys => exact (Sz.prs 60 (bndL_sm hn e).1 (bndL_sm hn e).2.1).le (by decide) (by decide)
theorem bndL_nil {n : Int} : bndL [] n = some ((rgI 0 n).map fun i => (0, i)) := by
  exact bndL_some (ps := []) (fun _ h => absurd h (by simp)) fun i a b => a
/-! ### the law's own bounds -/
def topsL (ps : List (Int × Int)) : List (Int × Int) := (0, 0) :: ps.map fun p => (p.2, p.2 - p.1)
def flrsL (ps : List (Int × Int)) : List (Int × Int) := (0, 0) :: ps.map fun p => (max 0 (p.2 - 1), (p.2 - p.1) * (if decide (0 < p.2) = true then 1 else 0))
theorem min_tops {ps : List (Int × Int)} {i m : Int} (h0 : 0 ≤ i) (h1 : m ∈ fl (fun u => decide (((topsL ps).getD u default).1 ≤ i)) (fun u => ((topsL ps).getD u default).2 + i - ((topsL ps).getD u default).1) (topsL ps).length)
    (h2 : ∀ y, y ∈ fl (fun u => decide (((topsL ps).getD u default).1 ≤ i)) (fun u => ((topsL ps).getD u default).2 + i - ((topsL ps).getD u default).1) (topsL ps).length → m ≤ y) : m = hiV i ps := by
  refine same_le fun d => ?_
  rw [hiV_iff]
  constructor
  · intro h
    have g : ∀ q ∈ topsL ps, q.1 ≤ i → d ≤ q.2 + i - q.1 := fun q hq e => by
      obtain ⟨u, hu, gu⟩ := at_of_mem hq
      have := h2 _ (fl_mem2.mpr ⟨u, hu, by rw [gu]; exact decide_eq_true e, rfl⟩)
      rw [gu] at this
      omega
    refine ⟨?_, fun p hp e => ?_⟩
    · have : d ≤ 0 + i - 0 := g (0, 0) (.head _) h0
      omega
    · have : d ≤ p.2 - p.1 + i - p.2 := g (p.2, p.2 - p.1) (.tail _ (List.mem_map.mpr ⟨p, hp, rfl⟩)) e
      omega
  · rintro ⟨g1, g2⟩
    obtain ⟨u, hu, hb, rfl⟩ := fl_mem2.mp h1
    have e := of_decide_eq_true hb
    have mm := mem_of_at hu
    generalize (topsL ps).getD u default = q at e mm ⊢
    rcases List.mem_cons.mp mm with rfl | mm
    · dsimp only; omega
    · obtain ⟨p, hp, rfl⟩ := List.mem_map.mp mm
      have := g2 p hp e
      dsimp only
      omega
theorem max_flrs {ps : List (Int × Int)} {i m : Int} (h0 : 0 ≤ i) (h1 : m ∈ fl (fun u => decide (i ≤ ((flrsL ps).getD u default).1)) (fun u => ((flrsL ps).getD u default).2 - (((flrsL ps).getD u default).1 - i)) (flrsL ps).length ++ [0])
    (h2 : ∀ y, y ∈ fl (fun u => decide (i ≤ ((flrsL ps).getD u default).1)) (fun u => ((flrsL ps).getD u default).2 - (((flrsL ps).getD u default).1 - i)) (flrsL ps).length ++ [0] → y ≤ m) : m = loV i ps := by
  refine same_ge fun d => ?_
  rw [loV_iff]
  constructor
  · intro h
    refine ⟨by have := h2 0 (List.mem_append_right _ (.head _)); omega, fun p hp e => ?_⟩
    have hq : (max 0 (p.2 - 1), (p.2 - p.1) * (if decide (0 < p.2) = true then 1 else 0)) ∈ flrsL ps := .tail _ (List.mem_map.mpr ⟨p, hp, rfl⟩)
    rw [if_pos (decide_eq_true (by omega)), Int.mul_one] at hq
    obtain ⟨u, hu, gu⟩ := at_of_mem hq
    have := h2 _ (List.mem_append_left _ (fl_mem2.mpr ⟨u, hu, by rw [gu]; exact decide_eq_true (by dsimp only; omega), rfl⟩))
    rw [gu] at this
    dsimp only at this
    omega
  · rintro ⟨g1, g2⟩
    rcases List.mem_append.mp h1 with h1 | h1
    · obtain ⟨u, hu, hb, rfl⟩ := fl_mem2.mp h1
      have e := of_decide_eq_true hb
      have mm := mem_of_at hu
      generalize (flrsL ps).getD u default = q at e mm ⊢
      rcases List.mem_cons.mp mm with rfl | mm
      · dsimp only at e ⊢; omega
      · obtain ⟨p, hp, rfl⟩ := List.mem_map.mp mm
        have := g2 p hp
        dsimp only at e ⊢
        by_cases c : 0 < p.2
        · rw [if_pos (decide_eq_true c), Int.mul_one]; omega
        · rw [if_neg (by simpa using c), Int.mul_zero]; omega
    · rw [List.mem_singleton.mp h1]; exact g1

def sp_bounds_of  : Sp := fun vs H Q E => ∃ (n : Int) (b : Addr) (xs : List V) (ps : List (Int × Int)) (L : Lg), vs = [.int n, .ref b] ∧ Led H (L) ∧ ((b, .lst xs) ∈ L) ∧ (Prs L xs ps) ∧ (Sm ps) ∧ (1 ≤ n ∧ n ≤ 60) ∧ ∀ (v : V) (N : Lg), (BdV ps n v N) → Tr ((N ++ L)) (fun H => Q (v) H)
theorem use_bounds_of {L : Lg} {Q : VK} {E : XK} {n : Int} {b : Addr} {xs : List V} {ps : List (Int × Int)} (hm : (b, .lst xs) ∈ L) (hx : Prs L xs ps) (hb : Sm ps) (hn : 1 ≤ n ∧ n ≤ 60) (q : ∀ (v : V) (N : Lg), (BdV ps n v N) → Tr ((N ++ L)) (fun H => Q (v) H)) : Tr L fun H => sp_bounds_of [.int n, .ref b] H Q E :=
  fun H l => ⟨n, b, xs, ps, L, rfl, l, hm, hx, hb, hn, q⟩

theorem ok_bounds_of (D : Df K mg "bounds_of" s_bounds_of) (B : Blt mg) (k_limits_of : Ok P w K mg base CX0 1 "limits_of" ["lines", "observations"] sp_limits_of) : Ok P w K mg base CX0 2 "bounds_of" ["lines", "observations"] sp_bounds_of := by
  obtain ⟨f, fd, hm, F⟩ := D
  refine ⟨f, fd, hm, F.kp, F.binds (fun _ _ _ _ _ _ us hl => match us, hl with | [_, _], _ => rfl), FunOkG F sc_bounds_of (fun vs H Q E h => ?_) (fun cdv A outer s H vs Q E hr h => ?_), F.lk⟩
  · obtain ⟨_, _, _, _, _, rfl, _⟩ := h; rfl
  obtain ⟨n, b, xs, ps, L, rfl, l, hm, hx, hb, hn, q⟩ := h
  refine ⟨_, PSs.nox (pss_cons (ps_set (i := 2) sc_bounds_of.nd rfl (.inl rfl) (pe_callG k_limits_of (hr.mono (by omega)) pas0 (pa_cons (pv 0) (pa_cons (pv 1) pa_nil))))
      (pss_cons (ps_if (pt_cmpR op_isN1 (pv 2) pe_non (nomark _)) (pss_one (ps_ret pe_non))
        pss_nil)
      (pss_cons (ps_asg (pv 2) (pg_tup rfl (pgs_cons (pg_name (i := 3) sc_bounds_of.nd rfl (.inl rfl)) (pgs_cons (pg_name (i := 4) sc_bounds_of.nd rfl (.inl rfl)) pgs_nil))))
      (pss_cons (ps_for PassesOwn.never rfl (pi_range2 rfl B.range_ (pa_cons pe_int (pa_cons (pv 0) pa_nil))) (pg_name (i := 5) sc_bounds_of.nd rfl (.inl rfl))
        (pss_one (ps_asg (pe_callB (c_min2 rfl) rfl B.min_ boot_min (pa_cons (pe_ix ix_list (pv 4) (pv 5) (fun _ _ => rfl)) (pa_cons (pe_op op_add (pe_ix ix_list (pv 4) (pe_op op_sub (pv 5) pe_int) (fun _ _ => rfl)) pe_int) pa_nil))) (pg_sub (pv 4) (pv 5) set_list))))
      (pss_cons (ps_for PassesOwn.never rfl (pi_range3 rfl B.range_ (pa_cons (pe_op op_sub (pv 0) pe_int) (pa_cons (pe_un un_neg pe_int) (pa_cons (pe_un un_neg pe_int) pa_nil)))) (pg_name (i := 5) sc_bounds_of.nd rfl (.inl rfl))
        (pss_one (ps_asg (pe_callB (c_max2 rfl) rfl B.max_ boot_max (pa_cons (pe_ix ix_list (pv 3) (pv 5) (fun _ _ => rfl)) (pa_cons (pe_op op_sub (pe_ix ix_list (pv 3) (pe_op op_add (pv 5) pe_int) (fun _ _ => rfl)) pe_int) pa_nil))) (pg_sub (pv 3) (pv 5) set_list))))
      (pss_cons (ps_set (i := 6) sc_bounds_of.nd rfl (.inl rfl) (pe_zipL rfl (pa_cons (pv 3) (pa_cons (pv 4) pa_nil)) rfl B.list_ boot_list rfl B.zip_))
      (pss_one (ps_ret (pe_ifExp (pt_val (pe_callB (cr_all rfl) rfl B.all_ boot_all (pa_cons (pe_lc (own := [("low", 7), ("high", 8)]) (g := gTup _ 2 (gCons (gName 7) (gCons (gName 8) (gNil)))) (by rfl) sc_bounds_of.nd (pi_list (pv 6)) (blkOk_by (own := [("low", 7), ("high", 8)]) (N := ["lines", "observations", "limits", "least", "greatest", "line", "found", "low", "high"]) (sc := defScope s_bounds_of) (by decide +kernel)) (fun _ _ _ _ _ => (pg_tup rfl (pgs_cons (pg_name (i := 7) sc_bounds_of.nd rfl (.inl rfl)) (pgs_cons (pg_name (i := 8) sc_bounds_of.nd rfl (.inl rfl)) pgs_nil)))) (fun _ _ _ _ _ => pts_nil) (fun _ _ _ _ _ => (pe_cmpR op_le (pv 7) (pv 8) (nomark _)))) pa_nil))) (pv 6) pe_non))))))))), ?_⟩
  rw [show L2.start ["lines", "observations", "limits", "least", "greatest", "line", "found", "low", "high"] [.int n, .ref b] = [some (.int n), some (.ref b), none, none, none, none, none, none, none] from rfl]
  refine Tr.of ?_ l
  obtain ⟨R_hm, P_hm⟩ := Pick.of_mem hm
  repeat walk_at "hz"
  refine use_limits_of hm hx hb hn fun v N hv => ?_
  cases hv with
  | no h1 h2 =>
    repeat walk_at "hz"
    exact (q .non [] (.no (bndL_out h1 h2))).sub (by walk_at "sb")
  | yes h1 h2 =>
    rename_i T a c lo hi
    have e1 := h2.l1
    have e2 := h2.l2
    repeat walk_at "hz"
    refine t_forK wk_range (fun t ((ys, j5, j6, j7, j8) : (List Int) × Option V × Option V × Option V × Option V) => [some (.int n), some (.ref b), some (.ref T), some (.ref a), some (.ref c), j5, j6, j7, j8]) (fun t ((ys, j5, j6, j7, j8) : (List Int) × Option V × Option V × Option V × Option V) => (c, .lst (ys.map V.int)) :: (a, .lst (lo.map V.int)) :: L) (fun t ((ys, j5, j6, j7, j8) : (List Int) × Option V × Option V × Option V × Option V) => (ys.length : Int) = n ∧ atD ys 0 = atD hi 0 ∧ (∀ i, 0 < i → i < 1 + (t : Int) → atD ys i = min (atD hi i) (atD ys (i - 1) + 1)) ∧ ∀ i, 1 + (t : Int) ≤ i → i < n → atD ys i = atD hi i) ⟨(hi, _, _, _, _), ⟨e2, rfl, fun i a b => by omega, fun _ _ _ => rfl⟩, rfl, (by walk_at "sb")⟩ (fun _ _ _ => trivial) ?_ ?_
    · rintro t ⟨ys, j5, j6, j7, j8⟩ v L' ht ⟨i1, i2, i3, i4⟩ ⟨rfl, rfl⟩
      try dsimp only at i1 i2 i3 i4 ⊢
      simp only [List.nil_append, List.cons_append]
      repeat walk_at "hz"
      refine t_setI (by walk_at "pk") (by omega) (by omega) ?_
      repeat walk_at "hz"
      have st := fun k h => atD_set (ns := ys) (v := min (atD ys (1 + (t : Int))) (atD ys (1 + (t : Int) - 1) + 1)) (i := 1 + (t : Int)) (k := k) (by omega) (by omega) h
      have zl : ((ys.set (1 + (t : Int)).toNat (min (atD ys (1 + (t : Int))) (atD ys (1 + (t : Int) - 1) + 1))).length : Int) = n := by rw [List.length_set]; exact i1
      generalize ys.set (1 + (t : Int)).toNat (min (atD ys (1 + (t : Int))) (atD ys (1 + (t : Int) - 1) + 1)) = zs at st zl ⊢
      have p1 : atD zs 0 = atD hi 0 := by rw [st 0 (by omega), if_neg (by omega)]; exact i2
      have p2 : ∀ i, 0 < i → i < 1 + ((t + 1 : Nat) : Int) → atD zs i = min (atD hi i) (atD zs (i - 1) + 1) := fun i a b => by
        rw [st i (by omega), st (i - 1) (by omega), if_neg (show ¬ i - 1 = 1 + (t : Int) by omega)]
        by_cases e : i = 1 + (t : Int)
        · rw [if_pos e, ← e, i4 i (by omega) (by omega)]
        · rw [if_neg e]; exact i3 i a (by omega)
      have p3 : ∀ i, 1 + ((t + 1 : Nat) : Int) ≤ i → i < n → atD zs i = atD hi i := fun i a b => by rw [st i (by omega), if_neg (by omega)]; exact i4 i (by omega) b
      refine t_pst (zs, _, _, _, _) ⟨zl, p1, p2, p3⟩ rfl (by walk_at "sb")
    · rintro ⟨ys, j5, j6, j7, j8⟩ ⟨i1, i2, i3, i4⟩
      try dsimp only at i1 i2 i3 i4 ⊢
      repeat walk_at "hz"
      refine t_itR3 (n := (n - 1).toNat) (by have := RgC.neg (i := n - 2) (j := -1) (by omega) (by omega) (by omega) (by omega); rwa [show (n - 2 - -1).toNat = (n - 1).toNat by omega] at this) ?_
      refine t_forK wk_range3 (fun u ((xs', z5, z6, z7, z8) : (List Int) × Option V × Option V × Option V × Option V) => [some (.int n), some (.ref b), some (.ref T), some (.ref a), some (.ref c), z5, z6, z7, z8]) (fun u ((xs', z5, z6, z7, z8) : (List Int) × Option V × Option V × Option V × Option V) => (a, .lst (xs'.map V.int)) :: (c, .lst (ys.map V.int)) :: L) (fun u ((xs', z5, z6, z7, z8) : (List Int) × Option V × Option V × Option V × Option V) => (xs'.length : Int) = n ∧ atD xs' (n - 1) = atD lo (n - 1) ∧ (∀ i, n - 2 - (u : Int) < i → i < n - 1 → atD xs' i = max (atD lo i) (atD xs' (i + 1) - 1)) ∧ ∀ i, 0 ≤ i → i ≤ n - 2 - (u : Int) → atD xs' i = atD lo i) ⟨(lo, _, _, _, _), ⟨e1, rfl, fun i a b => by omega, fun _ _ _ => rfl⟩, rfl, (by walk_at "sb")⟩ (fun _ _ _ => trivial) ?_ ?_
      · rintro u ⟨xs', z5, z6, z7, z8⟩ v L' hu ⟨k1, k2, k3, k4⟩ ⟨rfl, rfl⟩
        try dsimp only at k1 k2 k3 k4 ⊢
        simp only [List.nil_append, List.cons_append]
        repeat walk_at "hz"
        rw [show n - 2 + (u : Int) * -1 = n - 2 - (u : Int) by omega]
        refine t_setI (by walk_at "pk") (by omega) (by omega) ?_
        repeat walk_at "hz"
        have st := fun k h => atD_set (ns := xs') (v := max (atD xs' (n - 2 - (u : Int))) (atD xs' (n - 2 - (u : Int) + 1) - 1)) (i := n - 2 - (u : Int)) (k := k) (by omega) (by omega) h
        have zl : ((xs'.set (n - 2 - (u : Int)).toNat (max (atD xs' (n - 2 - (u : Int))) (atD xs' (n - 2 - (u : Int) + 1) - 1))).length : Int) = n := by rw [List.length_set]; exact k1
        generalize xs'.set (n - 2 - (u : Int)).toNat (max (atD xs' (n - 2 - (u : Int))) (atD xs' (n - 2 - (u : Int) + 1) - 1)) = zs at st zl ⊢
        have p1 : atD zs (n - 1) = atD lo (n - 1) := by rw [st (n - 1) (by omega), if_neg (by omega)]; exact k2
        have p2 : ∀ i, n - 2 - ((u + 1 : Nat) : Int) < i → i < n - 1 → atD zs i = max (atD lo i) (atD zs (i + 1) - 1) := fun i a b => by
          rw [st i (by omega), st (i + 1) (by omega), if_neg (show ¬ i + 1 = n - 2 - (u : Int) by omega)]
          by_cases e : i = n - 2 - (u : Int)
          · rw [if_pos e, ← e, k4 i (by omega) (by omega)]
          · rw [if_neg e]; exact k3 i (by omega) b
        have p3 : ∀ i, 0 ≤ i → i ≤ n - 2 - ((u + 1 : Nat) : Int) → atD zs i = atD lo i := fun i a b => by rw [st i a, if_neg (by omega)]; exact k4 i a (by omega)
        refine t_pst (zs, _, _, _, _) ⟨zl, p1, p2, p3⟩ rfl (by walk_at "sb")
      · rintro ⟨xs', z5, z6, z7, z8⟩ ⟨k1, k2, k3, k4⟩
        try dsimp only at k1 k2 k3 k4 ⊢
        repeat walk_at "hz"
        refine t_zipI (by walk_at "pk") (by walk_at "pk") fun p us N hN => ?_
        repeat walk_at "hz"
        have hNl := hN.len
        have zl : (xs'.zip ys).length ≤ 60 := by rw [List.length_zip]; omega
        refine t_lcMap (wk_list (xs := us)) (by rfl) (((xs'.zip ys).map fun y => decide (y.1 ≤ y.2)).map V.bl) (by simp [hNl]) (fun x => ⟨_, (by walk_at "pk")⟩) ?_ ?_
        · rintro D i v L' hi ⟨hv, rfl⟩
          obtain ⟨T2, y, rfl, he, m⟩ := hN.at hv
          obtain ⟨R2, hp2⟩ := Pick.of_mem (List.mem_append_left ((a, HO.lst (xs'.map V.int)) :: (c, HO.lst (ys.map V.int)) :: L) m)
          repeat walk_at "hz"
          exact t_lcMp (by walk_at "pk") (get_map _ (get_map _ he)) (by rw [sizeLine_eq]; simp; omega) (by walk_at "sb")
        intro D
        repeat walk_at "hz"
        refine t_all .head ?_
        have cr : Carried n (atD lo) (atD hi) (atD xs') (atD ys) := ⟨i2, fun i a b => i3 i a (by omega), k2, fun i a b => k3 i (by omega) b⟩
        have ev : ((xs'.zip ys).map fun y => decide (y.1 ≤ y.2)).all id = true ↔ ∀ i, 0 ≤ i → i < n → atD xs' i ≤ atD ys i := by
          rw [List.all_map, List.all_eq_true]
          constructor
          · intro h i a b
            have g1 := atD_get (ns := xs') a (by omega)
            have g2 := atD_get (ns := ys) a (by omega)
            have := h (atD xs' i, atD ys i) (List.mem_of_getElem? (List.getElem?_zip_eq_some.mpr ⟨g1, g2⟩))
            exact of_decide_eq_true this
          · intro h y hy
            obtain ⟨j, hj⟩ := List.mem_iff_getElem?.mp hy
            obtain ⟨g1, g2⟩ := List.getElem?_zip_eq_some.mp hj
            have hl := (List.getElem?_eq_some_iff.mp g1).1
            have := h j (by omega) (by omega)
            rw [atD_nat g1, atD_nat g2] at this
            exact decide_eq_true this
        repeat walk_at "hz"
        refine t_ite (fun c => ?_) fun c => ?_
        · repeat walk_at "hz"
          have zb := zip_bnd h2 hb h1 k1 i1 cr
          rw [zb] at hN
          exact (q (.ref p) _ (.yes (bndL_some h1 fun i a b => by have := ev.mp c i a b; rwa [cr.loV h2 h1 a b, cr.hiV h2 hb a b] at this) hN)).sub (by walk_at "sb")
        · repeat walk_at "hz"
          exact (q .non [] (.no (if_neg fun ⟨_, g⟩ => by rw [ev.mpr fun i a b => by rw [cr.loV h2 h1 a b, cr.hiV h2 hb a b]; exact g i (rgI_mem.mpr ⟨a, b⟩)] at c; cases c))).sub (by walk_at "sb")
def sp_depth_bounds (C_InvalidNumberError C_InvalidObservationsError : Addr) : Sp := fun vs H Q E => ∃ (x y : V) (T : String) (d : PyData) (L : Lg), vs = [x, y] ∧ Led H (L) ∧ (HasTy L x T) ∧ (Dv L y d) ∧ (obsBad d = none → ∃ b xs ps, ObsGood L y b xs ps) ∧ ((numOk x = true ∧ obsBad d = none) → (∀ (z : V) (N : Lg), Tr ((N ++ L)) (fun H => Q (z) H))) ∧ ((numOk x = false) → Tr (L) (fun H => E (.ref C_InvalidNumberError) none H)) ∧ (∀ (v : Option Nat), (numOk x = true ∧ obsBad d = some v) → ∀ dx : Addr, Tr ((dx, HO.xd [("index", ixV v)]) :: L) (fun H => E (.ref C_InvalidObservationsError) (some dx) H))
theorem use_depth_bounds {L : Lg} {Q : VK} {E : XK} {x y : V} {T : String} {d : PyData} (ht : HasTy L x T) (hd : Dv L y d) (hg : obsBad d = none → ∃ b xs ps, ObsGood L y b xs ps) (q : (numOk x = true ∧ obsBad d = none) → (∀ (z : V) (N : Lg), Tr ((N ++ L)) (fun H => Q (z) H))) (x0 : (numOk x = false) → Tr (L) (fun H => E (.ref C_InvalidNumberError) none H)) (x1 : ∀ (v : Option Nat), (numOk x = true ∧ obsBad d = some v) → ∀ dx : Addr, Tr ((dx, HO.xd [("index", ixV v)]) :: L) (fun H => E (.ref C_InvalidObservationsError) (some dx) H)) : Tr L fun H => sp_depth_bounds C_InvalidNumberError C_InvalidObservationsError [x, y] H Q E :=
  fun H l => ⟨x, y, T, d, L, rfl, l, ht, hd, hg, q, x0, x1⟩

theorem ok_depth_bounds {C_InvalidNumberError C_InvalidObservationsError : Addr} (D : Df K mg "depth_bounds" s_depth_bounds) (B : Blt mg) (k_check_observations : Ok P w K mg base (L2N.CX P w) 3 "check_observations" ["observations"] (sp_check_observations C_InvalidObservationsError)) (k_check_lines : Ok P w K mg base (L2N.CX P w) 2 "check_lines" ["lines"] (sp_check_lines C_InvalidNumberError)) (k_bounds_of : Ok P w K mg base CX0 2 "bounds_of" ["lines", "observations"] sp_bounds_of) : Ok P w K mg base (L2N.CX P w) 4 "depth_bounds" ["lines", "observations"] (sp_depth_bounds C_InvalidNumberError C_InvalidObservationsError) := by
  obtain ⟨f, fd, hm, F⟩ := D
  refine ⟨f, fd, hm, F.kp, F.binds (fun _ _ _ _ _ _ us hl => match us, hl with | [_, _], _ => rfl), FunOkG F sc_depth_bounds (fun vs H Q E h => ?_) (fun cdv A outer s H vs Q E hr h => ?_), F.lk⟩
  · obtain ⟨_, _, _, _, _, rfl, _⟩ := h; rfl
  obtain ⟨x, y, T, d, L, rfl, l, ht, hd, hg, q, x0, x1⟩ := h
  refine ⟨_, (pss_cons (ps_expr (pe_callG k_check_lines (hr.mono (by omega)) (fun σ => L2N.passAt (L2N.takes_of rfl rfl rfl rfl) σ) (pa_cons (pv 0) pa_nil)))
      (pss_cons (ps_expr (pe_callG k_check_observations (hr.mono (by omega)) (fun σ => L2N.passAt (L2N.takes_of rfl rfl rfl rfl) σ) (pa_cons (pv 1) pa_nil)))
      (PSs.nox (pss_one (ps_ret (pe_callG k_bounds_of (hr.mono (by omega)) pas0 (pa_cons (pv 0) (pa_cons (pv 1) pa_nil)))))))), ?_⟩
  rw [show L2.start ["lines", "observations"] [x, y] = [some x, some y] from rfl]
  refine Tr.of ?_ l
  repeat walk_at "hz"
  refine use_check_lines ht (fun e1 => ?_) x0
  repeat walk_at "hz"
  refine use_check_observations hd (fun e2 => ?_) fun v e => x1 v ⟨e1, e⟩
  obtain ⟨b, xs, ps, rfl, hm, hx, hb, hl, hs⟩ := hg e2
  obtain ⟨R_hm, P_hm⟩ := Pick.of_mem hm
  have q0 := q ⟨e1, e2⟩
  obtain ⟨n, rfl⟩ : ∃ n, x = .int n := by cases x <;> first | exact ⟨_, rfl⟩ | cases e1
  have hn : 1 ≤ n ∧ n ≤ 60 := by
    rw [numOk_int, Bool.and_eq_true, decide_eq_true_eq, decide_eq_true_eq] at e1
    exact e1
  repeat walk_at "hz"
  have q : ∀ (v : V) (N : Lg), BdV ps n v N → Tr (N ++ L) (fun H => Q v H) := fun v N _ => q0 v N
  refine use_bounds_of hm hx hb hn fun v N hv => ?_
  exact (q v N hv).sub (by walk_at "sb")

/-! ### two observations that no outline fits -/
def two (ps : List (Int × Int)) (i j : Nat) : List (Int × Int) := [ps.getD i default, ps.getD j default]
theorem two_sub {ps : List (Int × Int)} {i j : Nat} (hi : i < ps.length) (hj : j < ps.length) : ∀ p ∈ two ps i j, p ∈ ps := fun p hp => by
  unfold two at hp
  simp only [List.mem_cons, List.not_mem_nil, or_false] at hp
  rcases hp with rfl | rfl
  · exact mem_of_at hi
  · exact mem_of_at hj
theorem bndL_sub {ps qs : List (Int × Int)} {n : Int} (s : ∀ p ∈ qs, p ∈ ps) (h : bndL ps n ≠ none) : bndL qs n ≠ none := by
  cases e : bndL ps n with
  | none => exact absurd e h
  | some ys =>
    obtain ⟨h1, h2, -⟩ := bndL_ok e
    rw [bndL_some (fun p hp => h1 p (s p hp)) fun i a b => ?_]
    · exact fun e => nomatch e
    have g := h2 i a b
    have g1 := (hiV_iff (i := i) (ps := ps)).mp (Int.le_refl _)
    have g2 := (loV_iff (i := i) (ps := ps)).mp (Int.le_refl _)
    have k1 : hiV i ps ≤ hiV i qs := hiV_iff.mpr ⟨g1.1, fun p hp e => g1.2 p (s p hp) e⟩
    have k2 : loV i qs ≤ loV i ps := loV_iff.mpr ⟨g2.1, fun p hp e => g2.2 p (s p hp) e⟩
    omega
theorem pair_of {ps : List (Int × Int)} {a b : Int × Int} (ha : a ∈ ps) (hb : b ∈ ps) : ∃ i j, i ≤ j ∧ j < ps.length ∧ a ∈ two ps i j ∧ b ∈ two ps i j := by
  obtain ⟨u, hu, gu⟩ := at_of_mem ha
  obtain ⟨v, hv, gv⟩ := at_of_mem hb
  by_cases c : u ≤ v
  · exact ⟨u, v, c, hv, by unfold two; rw [gu]; exact .head _, by unfold two; rw [gv]; exact .tail _ (.head _)⟩
  · exact ⟨v, u, by omega, hu, by unfold two; rw [gu]; exact .tail _ (.head _), by unfold two; rw [gv]; exact .head _⟩
theorem loV_at (i : Int) : ∀ ps : List (Int × Int), loV i ps = 0 ∨ ∃ p ∈ ps, i < p.2 ∧ loV i ps = i + 1 - p.1
  | [] => .inl rfl
  | p :: ps => by
    have ih := loV_at i ps
    rw [loV]
    by_cases c : i < p.2
    · rw [if_pos c]
      by_cases d : loV i ps ≤ i + 1 - p.1
      · exact .inr ⟨p, .head _, c, by omega⟩
      · rw [show max (i + 1 - p.1) (loV i ps) = loV i ps by omega]
        rcases ih with h | ⟨q, hq, h1, h2⟩
        · exact .inl h
        · exact .inr ⟨q, .tail _ hq, h1, h2⟩
    · rw [if_neg c]
      rcases ih with h | ⟨q, hq, h1, h2⟩
      · exact .inl h
      · exact .inr ⟨q, .tail _ hq, h1, h2⟩
theorem hiV_at (i : Int) : ∀ ps : List (Int × Int), hiV i ps = i ∨ ∃ p ∈ ps, p.2 ≤ i ∧ hiV i ps = i - p.1
  | [] => .inl rfl
  | p :: ps => by
    have ih := hiV_at i ps
    rw [hiV]
    by_cases c : p.2 ≤ i
    · rw [if_pos c]
      by_cases d : i - p.1 ≤ hiV i ps
      · exact .inr ⟨p, .head _, c, by omega⟩
      · rw [show min (i - p.1) (hiV i ps) = hiV i ps by omega]
        rcases ih with h | ⟨q, hq, h1, h2⟩
        · exact .inl h
        · exact .inr ⟨q, .tail _ hq, h1, h2⟩
    · rw [if_neg c]
      rcases ih with h | ⟨q, hq, h1, h2⟩
      · exact .inl h
      · exact .inr ⟨q, .tail _ hq, h1, h2⟩
/-- if no outline fits all, then none fits some two -/
theorem helly {ps : List (Int × Int)} {n : Int} (h : bndL ps n = none) : ∃ i j, i ≤ j ∧ j < ps.length ∧ bndL (two ps i j) n = none := by
  unfold bndL at h
  split at h
  · cases h
  rename_i c
  by_cases al : ∀ p ∈ ps, p.2 < n
  · obtain ⟨i, i0, i1, lt⟩ : ∃ i, 0 ≤ i ∧ i < n ∧ hiV i ps < loV i ps := by
      refine Classical.byContradiction fun g => c ⟨al, fun i hi => ?_⟩
      have hi := rgI_mem.mp hi
      exact Int.not_lt.mp fun l => g ⟨i, hi.1, hi.2, l⟩
    rcases loV_at i ps with l | ⟨p, hp, p1, l⟩
    · rcases hiV_at i ps with k | ⟨q, hq, q1, k⟩
      · omega
      · obtain ⟨u, v, h1, h2, h3, -⟩ := pair_of hq hq
        refine ⟨u, v, h1, h2, bndL_no i0 i1 ?_⟩
        have := ((hiV_iff (i := i)).mp (Int.le_refl _)).2 q h3 q1
        have := loV_pos i (two ps u v)
        omega
    · rcases hiV_at i ps with k | ⟨q, hq, q1, k⟩
      · obtain ⟨u, v, h1, h2, h3, -⟩ := pair_of hp hp
        refine ⟨u, v, h1, h2, bndL_no i0 i1 ?_⟩
        have := ((loV_iff (i := i)).mp (Int.le_refl _)).2 p h3 p1
        have := hiV_le i (two ps u v)
        omega
      · obtain ⟨u, v, h1, h2, h3, h4⟩ := pair_of hp hq
        refine ⟨u, v, h1, h2, bndL_no i0 i1 ?_⟩
        have := ((loV_iff (i := i)).mp (Int.le_refl _)).2 p h3 p1
        have := ((hiV_iff (i := i)).mp (Int.le_refl _)).2 q h4 q1
        omega
  · obtain ⟨p, hp, g⟩ : ∃ p ∈ ps, n ≤ p.2 := Classical.byContradiction fun g => al fun p hp => Int.not_le.mp fun l => g ⟨p, hp, l⟩
    obtain ⟨u, v, h1, h2, h3, -⟩ := pair_of hp hp
    exact ⟨u, v, h1, h2, bndL_out h3 g⟩
/-- the first two, in the order of the search -/
structure First (C : Nat → Nat → Prop) (m : Nat) (i j : Nat) : Prop where
  le : i ≤ j
  lt : j < m
  bad : C i j
  least : ∀ u v, u ≤ v → v < m → u < i ∨ (u = i ∧ v < j) → ¬ C u v
theorem First.uniq {C : Nat → Nat → Prop} {m i j u v : Nat} (h : First C m i j) (g : First C m u v) : i = u ∧ j = v := by
  by_cases c : i < u ∨ (i = u ∧ j < v)
  · exact absurd h.bad (g.least i j h.le h.lt c)
  · by_cases d : u < i ∨ (u = i ∧ v < j)
    · exact absurd g.bad (h.least u v g.le g.lt d)
    · omega
/-- what a search for two returns, and what is new -/
inductive CfV (C : Nat → Nat → Prop) (m : Nat) : V → Lg → Prop where
  | no {N : Lg} : (∀ i j, i ≤ j → j < m → ¬ C i j) → CfV C m .non N
  | yes {T : Addr} {N : Lg} {i j : Nat} : First C m i j → CfV C m (.ref T) ((T, .tup [.int i, .int j]) :: N)
/-- no outline fits these two -/
def Clash (ps : List (Int × Int)) (n : Int) (i j : Nat) : Prop := bndL (two ps i j) n = none
theorem clash_none {ps : List (Int × Int)} {n : Int} (h : bndL ps n ≠ none) (i j : Nat) (h1 : i ≤ j) (h2 : j < ps.length) : ¬ Clash ps n i j :=
  bndL_sub (two_sub (Nat.lt_of_le_of_lt h1 h2) h2) h
/-- two searches, and their results as data -/
theorem CfV.data {C : Nat → Nat → Prop} {m : Nat} {v : V} {N : Lg} (hm : m ≤ 100) (h : CfV C m v N) : ∃ d, Sz 500 1 d ∧ ∀ v2 N2, CfV C m v2 N2 → Dv N2 v2 d := by
  cases h with
  | no h =>
    refine ⟨.none, Sz.none.le (by decide) (by decide), fun v2 N2 h2 => ?_⟩
    cases h2 with
    | no _ => exact .non
    | yes g => exact absurd g.bad (h _ _ g.le g.lt)
  | yes f =>
    rename_i T N i j
    have a := f.le
    have b := f.lt
    refine ⟨prD ((i : Int), (j : Int)), (Sz.pr (p := ((i : Int), (j : Int))) (by dsimp only; omega)).le (by decide) (by decide), fun v2 N2 h2 => ?_⟩
    cases h2 with
    | no h => exact absurd f.bad (h _ _ f.le f.lt)
    | yes g =>
      obtain ⟨rfl, rfl⟩ := f.uniq g
      exact (Dt.pr (.head _)).dv

/-! ### conflict -/
def sp_conflict (C_InvalidNumberError C_InvalidObservationsError : Addr) : Sp := fun vs H Q E => ∃ (x y : V) (T : String) (d : PyData) (L : Lg), vs = [x, y] ∧ Led H (L) ∧ (HasTy L x T) ∧ (Dv L y d) ∧ (obsBad d = none → ∃ b xs ps, ObsGood L y b xs ps) ∧ ((numOk x = true ∧ obsBad d = none) → (∀ (z : V) (N : Lg), Tr ((N ++ L)) (fun H => Q (z) H))) ∧ ((numOk x = false) → Tr (L) (fun H => E (.ref C_InvalidNumberError) none H)) ∧ (∀ (v : Option Nat), (numOk x = true ∧ obsBad d = some v) → ∀ dx : Addr, Tr ((dx, HO.xd [("index", ixV v)]) :: L) (fun H => E (.ref C_InvalidObservationsError) (some dx) H))
theorem use_conflict {L : Lg} {Q : VK} {E : XK} {x y : V} {T : String} {d : PyData} (ht : HasTy L x T) (hd : Dv L y d) (hg : obsBad d = none → ∃ b xs ps, ObsGood L y b xs ps) (q : (numOk x = true ∧ obsBad d = none) → (∀ (z : V) (N : Lg), Tr ((N ++ L)) (fun H => Q (z) H))) (x0 : (numOk x = false) → Tr (L) (fun H => E (.ref C_InvalidNumberError) none H)) (x1 : ∀ (v : Option Nat), (numOk x = true ∧ obsBad d = some v) → ∀ dx : Addr, Tr ((dx, HO.xd [("index", ixV v)]) :: L) (fun H => E (.ref C_InvalidObservationsError) (some dx) H)) : Tr L fun H => sp_conflict C_InvalidNumberError C_InvalidObservationsError [x, y] H Q E :=
  fun H l => ⟨x, y, T, d, L, rfl, l, ht, hd, hg, q, x0, x1⟩

theorem ok_conflict {C_InvalidNumberError C_InvalidObservationsError : Addr} (D : Df K mg "conflict" s_conflict) (B : Blt mg) (k_check_observations : Ok P w K mg base (L2N.CX P w) 3 "check_observations" ["observations"] (sp_check_observations C_InvalidObservationsError)) (k_check_lines : Ok P w K mg base (L2N.CX P w) 2 "check_lines" ["lines"] (sp_check_lines C_InvalidNumberError)) (k_bounds_of : Ok P w K mg base CX0 2 "bounds_of" ["lines", "observations"] sp_bounds_of) : Ok P w K mg base (L2N.CX P w) 4 "conflict" ["lines", "observations"] (sp_conflict C_InvalidNumberError C_InvalidObservationsError) := by
  obtain ⟨f, fd, hm, F⟩ := D
  refine ⟨f, fd, hm, F.kp, F.binds (fun _ _ _ _ _ _ us hl => match us, hl with | [_, _], _ => rfl), FunOkG F sc_conflict (fun vs H Q E h => ?_) (fun cdv A outer s H vs Q E hr h => ?_), F.lk⟩
  · obtain ⟨_, _, _, _, _, rfl, _⟩ := h; rfl
  obtain ⟨x, y, T, d, L, rfl, l, ht, hd, hg, q, x0, x1⟩ := h
  refine ⟨_, (pss_cons (ps_expr (pe_callG k_check_lines (hr.mono (by omega)) (fun σ => L2N.passAt (L2N.takes_of rfl rfl rfl rfl) σ) (pa_cons (pv 0) pa_nil)))
      (pss_cons (ps_expr (pe_callG k_check_observations (hr.mono (by omega)) (fun σ => L2N.passAt (L2N.takes_of rfl rfl rfl rfl) σ) (pa_cons (pv 1) pa_nil)))
      (PSs.nox (pss_cons (ps_for PassesOwn.never rfl (pi_enum (by rfl) B.enumerate_ (pa_cons (pv 1) pa_nil)) (pg_tup rfl (pgs_cons (pg_name (i := 2) sc_conflict.nd rfl (.inl rfl)) (pgs_cons (pg_name (i := 3) sc_conflict.nd rfl (.inl rfl)) pgs_nil)))
        (pss_one (ps_for PassesOwn.never rfl (pi_range2 rfl B.range_ (pa_cons (pv 2) (pa_cons (pe_callB c_len rfl B.len_ boot_len (pa_cons (pv 1) pa_nil)) pa_nil))) (pg_name (i := 4) sc_conflict.nd rfl (.inl rfl))
        (pss_one (ps_if (pt_cmpR op_isN1 (pe_callG k_bounds_of (hr.mono (by omega)) pas0 (pa_cons (pv 0) (pa_cons (pe_lst (pa_cons (pv 3) (pa_cons (pe_ix ix_list (pv 1) (pv 4) (fun _ _ => rfl)) pa_nil))) pa_nil))) pe_non (nomark _)) (pss_one (ps_ret (pe_tup (pa_cons (pv 2) (pa_cons (pv 4) pa_nil)))))
        pss_nil)))))
      (pss_one (ps_ret pe_non)))))), ?_⟩
  rw [show L2.start ["lines", "observations", "one", "first", "other"] [x, y] = [some x, some y, none, none, none] from rfl]
  refine Tr.of ?_ l
  repeat walk_at "hz"
  refine use_check_lines ht (fun e1 => ?_) x0
  repeat walk_at "hz"
  refine use_check_observations hd (fun e2 => ?_) fun v e => x1 v ⟨e1, e⟩
  obtain ⟨b, xs, ps, rfl, hm, hx, hb, hl, hs⟩ := hg e2
  obtain ⟨R_hm, P_hm⟩ := Pick.of_mem hm
  have q0 := q ⟨e1, e2⟩
  obtain ⟨n, rfl⟩ : ∃ n, x = .int n := by cases x <;> first | exact ⟨_, rfl⟩ | cases e1
  have hn : 1 ≤ n ∧ n ≤ 60 := by
    rw [numOk_int, Bool.and_eq_true, decide_eq_true_eq, decide_eq_true_eq] at e1
    exact e1
  repeat walk_at "hz"
  have q : ∀ (v : V) (N : Lg), CfV (Clash ps n) ps.length v N → Tr (N ++ L) (fun H => Q v H) := fun v N _ => q0 v N
  obtain ⟨R, hp⟩ := Pick.of_mem hm
  have hxl := hx.len
  refine t_forK (wk_enum (xs := xs)) (fun t ((j2, j3, j4) : Option V × Option V × Option V) => [some (.int n), some (.ref b), j2, j3, j4]) (fun t ((j2, j3, j4) : Option V × Option V × Option V) => L) (fun t ((j2, j3, j4) : Option V × Option V × Option V) => ∀ i j, i < t → i ≤ j → j < ps.length → ¬ Clash ps n i j) ⟨(_, _, _), fun i j h => by omega, rfl, (by walk_at "sb")⟩ (fun _ _ _ => ⟨R, hp⟩) ?_ ?_
  · rintro t ⟨j2, j3, j4⟩ v L' ht hc ⟨T, x, rfl, hv, rfl⟩
    try dsimp only at hc ⊢
    simp only [List.nil_append, List.cons_append]
    obtain ⟨T2, p, rfl, he, m⟩ := hx.at hv
    have pb := hb p (List.mem_of_getElem? he)
    have gp := getD_of he
    repeat walk_at "hz"
    refine t_forK wk_range (fun u (j4 : Option V) => [some (.int n), some (.ref b), some (.int t), some (.ref T2), j4]) (fun u (j4 : Option V) => L) (fun u (j4 : Option V) => ∀ j, t ≤ j → j < t + u → j < ps.length → ¬ Clash ps n t j) ⟨_, fun j h1 h2 => by omega, rfl, (by walk_at "sb")⟩ (fun _ _ _ => trivial) ?_ ?_
    · rintro u j4 v L' hu hd ⟨rfl, rfl⟩
      try dsimp only at hd ⊢
      simp only [List.nil_append, List.cons_append]
      obtain ⟨T3, y, ha, hy2, hy, my⟩ := hx.pick (i := (t : Int) + u) (by omega) (by omega)
      have yb := hb y hy
      repeat walk_at "hz"
      refine t_ixL (by walk_at "pk") ha ?_
      repeat walk_at "hz"
      have tw : two ps t (t + u) = [p, y] := by
        unfold two
        rw [gp, getD_of (by rw [← hy2]; congr 1 : ps[t + u]? = some y)]
      refine use_bounds_of (ps := [p, y]) (by walk_at "mb") (.cons (.pr (.tail _ m)) (.cons (.pr (.tail _ my)) .nil)) (fun q hq => by
        simp only [List.mem_cons, List.not_mem_nil, or_false] at hq
        rcases hq with rfl | rfl
        · exact pb
        · exact yb) hn fun v N hv => ?_
      cases hv with
      | no h =>
        repeat walk_at "hz"
        rename_i pt
        have f : First (Clash ps n) ps.length t (t + u) := ⟨by omega, by omega, by unfold Clash; rw [tw]; exact h, fun i j h1 h2 h3 => by
          rcases h3 with h3 | ⟨rfl, h3⟩
          · exact hc i j h3 h1 h2
          · exact hd j h1 h3 h2⟩
        exact (q (.ref pt) [(pt, .tup [.int t, .int ((t : Int) + u)])] (by have := CfV.yes (T := pt) (N := []) f; rwa [Int.natCast_add] at this)).sub (by walk_at "sb")
      | yes h =>
        repeat walk_at "hz"
        have nx : ∀ j, t ≤ j → j < t + (u + 1) → j < ps.length → ¬ Clash ps n t j := fun j h1 h2 h3 => by
          by_cases c : j = t + u
          · subst c; unfold Clash; rw [tw, h]; exact fun e => nomatch e
          · exact hd j h1 (by omega) h3
        refine t_pst (_) nx rfl (by walk_at "sb")
    · rintro j4 hd
      try dsimp only at hd ⊢
      have nx : ∀ i j, i < t + 1 → i ≤ j → j < ps.length → ¬ Clash ps n i j := fun i j h1 h2 h3 => by
        by_cases c : i = t
        · subst c; exact hd j h2 (by omega) h3
        · exact hc i j (by omega) h2 h3
      refine t_pst (_, _, _) nx rfl (by walk_at "sb")
  · rintro ⟨j2, j3, j4⟩ hc
    try dsimp only at hc ⊢
    repeat walk_at "hz"
    exact (q .non [] (.no fun i j h1 h2 => hc i j (by omega) h1 h2)).sub (by walk_at "sb")

/-- a small number -/
theorem sz_small {i : Int} (h : i.natAbs < 2 ^ 110) : Sz 1000 2 (.int i) := (Sz.int 110 (by decide) (by decide) h).le (by decide) (by decide)
theorem sz_depths {ns : List Int} (ho : Outline ns) : ∀ n ∈ ns, n.natAbs < 2 ^ 30 := fun n hn => by
  obtain ⟨i, hi⟩ := List.mem_iff_getElem?.mp hn
  have := ho.bound hi
  have := (List.getElem?_eq_some_iff.mp hi).1
  have := ho.len
  omega
def sp_law_no_outline  : Sp := fun vs H Q E => ∃ (a b : Addr) (ns : List Int) (m : Nat) (o : HO) (L : Lg), vs = [.ref a, .ref b] ∧ Led H ((a, o) :: L) ∧ ((b, .lst (ns.map V.int)) ∈ L) ∧ (Outline ns) ∧ (Bag m o) ∧ (m ≤ 100000000) ∧ ∀ (x : V) (d : PyData) (N : Lg) (o' : HO), (Dv (N ++ L) x d) → (Sz 2000000 5 d) → (outD d = false) → (Bag (m + 3) o') → Tr ((a, o') :: (N ++ L)) (fun H => Q (x) H)
theorem use_law_no_outline {L0  L : Lg} {Q : VK} {E : XK} {a b : Addr} {ns : List Int} {m : Nat} {o : HO} (hp0 : Pick (a) (o) L0 L) (hm : (b, .lst (ns.map V.int)) ∈ L) (ho : Outline ns) (hs : Bag m o) (hn : m ≤ 100000000) (q : ∀ (x : V) (d : PyData) (N : Lg) (o' : HO), (Dv (N ++ L) x d) → (Sz 2000000 5 d) → (outD d = false) → (Bag (m + 3) o') → Tr ((a, o') :: (N ++ L)) (fun H => Q (x) H)) : Tr L0 fun H => sp_law_no_outline [.ref a, .ref b] H Q E :=
  fun H l => ⟨a, b, ns, m, o, L, rfl, l.pick hp0, hm, ho, hs, hn, q⟩

theorem ok_law_no_outline (D : Df K mg "_law_no_outline" s_law_no_outline) (B : Blt mg) (k__law_draw : Ok P w K mg base CX0 1 "_law_draw" ["bag", "many"] sp_law_draw) : Ok P w K mg base CX0 2 "_law_no_outline" ["bag", "depths"] sp_law_no_outline := by
  obtain ⟨f, fd, hm, F⟩ := D
  refine ⟨f, fd, hm, F.kp, F.binds (fun _ _ _ _ _ _ us hl => match us, hl with | [_, _], _ => rfl), FunOkG F sc_law_no_outline (fun vs H Q E h => ?_) (fun cdv A outer s H vs Q E hr h => ?_), F.lk⟩
  · obtain ⟨_, _, _, _, _, _, rfl, _⟩ := h; rfl
  obtain ⟨a, b, ns, m, o, L, rfl, l, hm, ho, hs, hn, q⟩ := h
  refine ⟨_, PSs.nox (pss_cons (ps_set (i := 2) sc_law_no_outline.nd rfl (.inl rfl) (pe_callG k__law_draw (hr.mono (by omega)) pas0 (pa_cons (pv 0) (pa_cons (pe_callB c_len rfl B.len_ boot_len (pa_cons (pv 1) pa_nil)) pa_nil))))
      (pss_cons (ps_set (i := 3) sc_law_no_outline.nd rfl (.inl rfl) (pe_ix ix_list (pe_lst (pa_cons (pe_un un_neg pe_int) (pa_cons (pe_op op_add (pe_ix ix_list (pv 1) (pv 2) (fun _ _ => rfl)) pe_int) (pa_cons pe_non (pa_cons pe_bl (pa_cons pe_str (pa_cons (pe_lst (pa_cons pe_int pa_nil)) pa_nil))))))) (pe_callG k__law_draw (hr.mono (by omega)) pas0 (pa_cons (pv 0) (pa_cons pe_int pa_nil))) (fun _ _ => rfl)))
      (pss_cons (ps_set (i := 4) sc_law_no_outline.nd rfl (.inl rfl) (pe_lst (pa_cons pe_non (pa_cons pe_int (pa_cons pe_str (pa_cons pe_dnewK (pa_cons (pe_lst pa_nil) (pa_cons (pe_tup pa_nil) (pa_cons (pe_lst (pa_cons pe_int pa_nil)) (pa_cons (pe_lst (pa_cons pe_int (pa_cons pe_int pa_nil))) (pa_cons (pe_lst (pa_cons (pe_lst (pa_cons pe_int pa_nil)) pa_nil)) (pa_cons (pe_callTy c_tuple rfl B.tuple_ boot_tuple (pa_cons (pv 1) pa_nil)) (pa_cons (pe_op op_rep (pe_lst (pa_cons pe_int pa_nil)) pe_int) pa_nil)))))))))))))
      (pss_cons (ps_set (i := 4) sc_law_no_outline.nd rfl (.inl rfl) (pe_op op_cat (pv 4) (pe_op op_rep (pe_lst (pa_cons (pe_op op_cat (pe_op op_cat (pe_slice sl_list (pv 1) po_none (po_some (pv 2))) (pe_lst (pa_cons (pv 3) pa_nil))) (pe_slice sl_list (pv 1) (po_some (pe_op op_add (pv 2) pe_int)) po_none)) pa_nil)) pe_int)))
      (pss_one (ps_ret (pe_ix ix_list (pv 4) (pe_callG k__law_draw (hr.mono (by omega)) pas0 (pa_cons (pv 0) (pa_cons pe_int pa_nil))) (fun _ _ => rfl)))))))), ?_⟩
  rw [show L2.start ["bag", "depths", "at", "odd", "some"] [.ref a, .ref b] = [some (.ref a), some (.ref b), none, none, none] from rfl]
  refine Tr.of ?_ l
  obtain ⟨R_hm, P_hm⟩ := Pick.of_mem hm
  repeat walk_at "hz"
  obtain ⟨R, hp⟩ := Pick.of_mem hm
  have hl := ho.len
  have sm := sz_depths ho
  repeat walk_at "hz"
  refine use_law_draw (by walk_at "pk") hs (by omega) (by omega) (by omega) fun u o_u ul uh hs => ?_
  repeat walk_at "hz"
  have ub := ho.at (i := u) ul uh
  refine use_law_draw (by walk_at "pk") hs (by omega) (by omega) (by omega) fun e o_e el eh hs => ?_
  repeat walk_at "hz"
  rename_i pl pz
  obtain ⟨odd, hodd, om⟩ := at_memV (xs := [V.int (-1), .int (atD ns u + 200), .non, .bl true, .str "0", .ref pl]) el (by simpa using eh)
  refine t_ixL (by walk_at "pk") hodd ?_
  repeat walk_at "hz"
  rw [rep_ints]
  repeat walk_at "hz"
  rw [cutI_to ul (by omega)]
  repeat walk_at "hz"
  rw [cutI_from (by omega) (by omega)]
  repeat walk_at "hz"
  rename_i q17 q16 q15 q14 q13 q12 q11 q10 q9 q8 q7 q6 q5 q4 q3 q2 q1 q0
  refine Tr.lcast (show _ = [V.ref q2, .ref q2, .ref q2, .ref q2, .ref q2] from rfl) ?_
  repeat walk_at "hz"
  rename_i qs
  refine use_law_draw (by walk_at "pk") hs (by omega) (by omega) (by omega) fun f o_f fl fh hs => ?_
  repeat walk_at "hz"
  obtain ⟨x, hx, xm⟩ := at_memV (xs := [V.non, .int 0, .str "0", .ref q17, .ref q16, .ref q15, .ref q14, .ref q13, .ref q11, .ref q10, .ref q8] ++ [V.ref q2, .ref q2, .ref q2, .ref q2, .ref q2]) fl (by simpa using fh)
  refine t_ixL (by walk_at "pk") hx ?_
  repeat walk_at "hz"
  have hs2 : Bag (m + 3) o_f := hs
  refine t_preV (fun d => Sz 2000000 5 d ∧ outD d = false) (fun d h1 h2 => q x d _ _ h1 h2.1 h2.2 hs2) (by walk_at "pk") (by walk_at "pre") ?_
  have i30 : ∀ {ms : List Int}, (∀ n ∈ ms, n ∈ ns) → ∀ d ∈ ms.map PyData.int, Sz 1000 2 d := fun hms d hd => by
    obtain ⟨n, hn, rfl⟩ := List.mem_map.mp hd
    exact sz_small (Nat.lt_trans (sm n (hms n hn)) (by decide))
  have s0 : Sz 1000 2 (.str "0") := (Sz.str (by decide)).le (by decide) (by decide)
  simp only [List.cons_append, List.nil_append, List.mem_cons, List.not_mem_nil, or_false, or_self] at xm
  rcases xm with rfl | rfl | rfl | rfl | rfl | rfl | rfl | rfl | rfl | rfl | rfl | rfl
  · exact ⟨_, .non, Sz.none.le (by decide) (by decide), rfl⟩
  · exact ⟨_, .int _, (sz_small (by decide)).le (by decide) (by decide), rfl⟩
  · exact ⟨_, .str _, s0.le (by decide) (by decide), rfl⟩
  · exact ⟨_, .dct (by walk_at "mb"), Sz.dct.le (by decide) (by decide), rfl⟩
  · exact ⟨_, .lst (by walk_at "mb") .nil, (Sz.list (n := 1000) (k := 2) 300 (fun _ h => absurd h (by simp)) (by decide)).le (by decide) (by decide), rfl⟩
  · exact ⟨_, .tup (by walk_at "mb") .nil, (Sz.tuple (n := 1000) (k := 2) 300 (fun _ h => absurd h (by simp)) (by decide)).le (by decide) (by decide), rfl⟩
  · exact ⟨_, .lst (by walk_at "mb") (DvAll.ints [1]), (Sz.ints 30 200 (by decide) (by decide) (by decide) (by decide)).le (by decide) (by decide), not_outD (ns := []) (es := []) fun i h => by cases h; exact .inr (by decide)⟩
  · exact ⟨_, .lst (by walk_at "mb") (DvAll.ints [0, 2]), (Sz.ints 30 200 (by decide) (by decide) (by decide) (by decide)).le (by decide) (by decide), not_outD (ns := [0]) (es := []) fun i h => by cases h; exact .inr (by decide)⟩
  · exact ⟨_, .lst (by walk_at "mb") (.cons (.ints (ns := [0]) (by walk_at "mb")) .nil), (Sz.list (n := 1000) (k := 2) 1 (fun e he => by rw [List.mem_singleton.mp he]; exact (Sz.ints (ns := [0]) 30 1 (by decide) (by decide) (by decide) (by decide)).le (by decide) (by decide)) (by simp)).le (by decide) (by decide), not_outD (ns := []) fun i h => by cases h⟩
  · exact ⟨_, .tup (by walk_at "mb") (DvAll.ints _), (Sz.tuple (n := 1000) (k := 2) 300 (i30 fun n h => h) (by rw [List.length_map]; omega)).le (by decide) (by decide), rfl⟩
  · refine ⟨_, .lst (by walk_at "mb") (DvAll.ints _), (Sz.list (n := 1000) (k := 2) 300 (fun e he => ?_) (by decide)).le (by decide) (by decide), by rw [outD_ints]; decide⟩
    obtain ⟨n, hn, rfl⟩ := List.mem_map.mp he
    rw [(List.mem_replicate.mp hn).2]; exact sz_small (by decide)
  · suffices hodd : ∃ d, Dv _ odd d ∧ Sz 1000 2 d ∧ ∀ i, d = .int i → i < 0 ∨ lastD (-1) (ns.take u.toNat) + 1 < i by
      obtain ⟨d, h1, h2, h3⟩ := hodd
      refine ⟨_, .lst (by walk_at "mb") (((DvAll.ints _).app (.cons h1 .nil)).app (DvAll.ints _)), (Sz.list (n := 1000) (k := 2) 300 (fun e he => ?_) ?_).le (by decide) (by decide), ?_⟩
      · rw [List.mem_append, List.mem_append, List.mem_singleton] at he
        rcases he with (he | rfl) | he
        · exact i30 (fun n hn => List.mem_of_mem_take hn) e he
        · exact h2
        · exact i30 (fun n hn => List.mem_of_mem_drop hn) e he
      · simp only [List.length_append, List.length_map, List.length_take, List.length_drop, List.length_singleton]; omega
      · rw [List.append_assoc, List.singleton_append]
        exact not_outD h3
    have bb : lastD (-1) (ns.take u.toNat) ≤ 198 := by
      by_cases c : u.toNat = 0
      · rw [c]; show (-1 : Int) ≤ 198; omega
      · have := lastD_bound (-1) (ns.take u.toNat) (chainI_take _ _ _ ho.chain) (by rw [List.length_take]; omega)
        rw [List.length_take] at this
        omega
    simp only [List.mem_cons, List.not_mem_nil, or_false] at om
    rcases om with rfl | rfl | rfl | rfl | rfl | rfl
    · exact ⟨_, .int _, sz_small (by decide), fun i h => by cases h; omega⟩
    · exact ⟨_, .int _, sz_small (by omega), fun i h => by cases h; omega⟩
    · exact ⟨_, .non, Sz.none.le (by decide) (by decide), fun i h => by cases h⟩
    · exact ⟨_, .bl _, (Sz.bool _).le (by decide) (by decide), fun i h => by cases h⟩
    · exact ⟨_, .str _, s0, fun i h => by cases h⟩
    · exact ⟨_, .lst (by walk_at "mb") (DvAll.ints [0]), (Sz.list (n := 100) (k := 0) 1 (fun d hd => by rw [List.mem_singleton.mp hd]; exact (Sz.int 1 (by decide) (by decide) (by decide)).le (by decide) (by decide)) (by decide)).le (by decide) (by decide), fun i h => by cases h⟩

theorem cutV_to {xs : List V} {i : Int} (h0 : 0 ≤ i) : cutV xs none (some i) = xs.take i.toNat := by
  unfold cutV
  have e1 : HT.sIx xs.length 0 none = 0 := rfl
  have e : HT.sIx xs.length xs.length (some i) = min i.toNat xs.length := by
    show (if i < 0 then _ else min i.toNat xs.length) = _
    rw [if_neg (by omega)]
  rw [e1, e, List.drop_zero, Nat.sub_zero]
  by_cases c : i.toNat ≤ xs.length
  · rw [Nat.min_eq_left c]
  · rw [Nat.min_eq_right (by omega), List.take_length, List.take_of_length_le (by omega)]
theorem cutV_from {xs : List V} {i : Int} (h0 : 0 ≤ i) : cutV xs (some i) none = xs.drop i.toNat := by
  unfold cutV
  have e : HT.sIx xs.length 0 (some i) = min i.toNat xs.length := by
    show (if i < 0 then _ else min i.toNat xs.length) = _
    rw [if_neg (by omega)]
  have e1 : HT.sIx xs.length xs.length none = xs.length := rfl
  rw [e1, e]
  by_cases c : i.toNat ≤ xs.length
  · rw [Nat.min_eq_left c, List.take_of_length_le (by rw [List.length_drop]; omega)]
  · rw [Nat.min_eq_right (by omega), List.drop_length, List.drop_of_length_le (by omega), List.take_nil]
theorem DvAll.take {L : Lg} : ∀ {xs : List V} {ds : List PyData} (n : Nat), DvAll L xs ds → DvAll L (xs.take n) (ds.take n)
  | _, _, 0, _ => by rw [List.take_zero, List.take_zero]; exact .nil
  | _, _, n + 1, .nil => .nil
  | _, _, n + 1, .cons h r => .cons h (DvAll.take n r)
theorem DvAll.drop {L : Lg} : ∀ {xs : List V} {ds : List PyData} (n : Nat), DvAll L xs ds → DvAll L (xs.drop n) (ds.drop n)
  | _, _, 0, h => h
  | _, _, n + 1, .nil => .nil
  | _, _, n + 1, .cons h r => DvAll.drop n r
theorem rep_non (k : Nat) : (List.replicate k [V.non]).flatten = List.replicate k V.non := by
  induction k with
  | zero => rfl
  | succ k ih => rw [List.replicate_succ, List.flatten_cons, ih]; rfl
theorem rep_ref (k : Nat) (a : Addr) : (List.replicate k [V.ref a]).flatten = List.replicate k (V.ref a) := by
  induction k with
  | zero => rfl
  | succ k ih => rw [List.replicate_succ, List.flatten_cons, ih]; rfl
theorem DvAll.rep {L : Lg} {v : V} {d : PyData} (h : Dv L v d) : ∀ k : Nat, DvAll L (List.replicate k v) (List.replicate k d)
  | 0 => .nil
  | k + 1 => by rw [List.replicate_succ, List.replicate_succ]; exact .cons h (DvAll.rep h k)
theorem obsD_prs {ps : List (Int × Int)} (hb : Sm ps) : ∀ d ∈ ps.map prD, obsD d = true := fun d hd => by
  obtain ⟨p, hp, rfl⟩ := List.mem_map.mp hd
  have pb := hb p hp
  show (decide (0 ≤ p.1) && decide (0 ≤ p.2)) = true
  rw [decide_eq_true pb.1, decide_eq_true pb.2.2.1]; rfl
theorem t_preW {L M R N : Lg} {a T : Addr} {x : V} {o : HO} {G : Hp → Prop} (S : PyData → Option Nat → Prop) (k : ∀ d v, Dv (N ++ L) x d → S d v → (T, HO.tup [x, ixV v]) ∈ N → Tr ((a, o) :: (N ++ L)) G) (hp : Pick a o M R) (h : Pre R L N)
    (key : ∃ d v, Dv R x d ∧ S d v ∧ (T, HO.tup [x, ixV v]) ∈ N) : Tr M G := by
  obtain ⟨d, v, h1, h2, h3⟩ := key
  rw [h.eq] at h1
  exact t_pre hp h (k d v h1 h2 h3)
def sp_law_no_seen  : Sp := fun vs H Q E => ∃ (a b : Addr) (xs : List V) (ps : List (Int × Int)) (m : Nat) (o : HO) (L : Lg), vs = [.ref a, .ref b] ∧ Led H ((a, o) :: L) ∧ ((b, .lst xs) ∈ L) ∧ (Prs L xs ps) ∧ (Sm ps) ∧ (ps.length ≤ 40) ∧ (Bag m o) ∧ (m ≤ 100000000) ∧ ∀ (T : Addr) (x : V) (d : PyData) (v : Option Nat) (N : Lg) (o' : HO), (Dv (N ++ L) x d) → (Sz 2000000 5 d) → (obsBad d = some v) → ((T, HO.tup [x, ixV v]) ∈ N) → (Bag (m + 6) o') → Tr ((a, o') :: (N ++ L)) (fun H => Q (.ref T) H)
theorem use_law_no_seen {L0  L : Lg} {Q : VK} {E : XK} {a b : Addr} {xs : List V} {ps : List (Int × Int)} {m : Nat} {o : HO} (hp0 : Pick (a) (o) L0 L) (hm : (b, .lst xs) ∈ L) (hx : Prs L xs ps) (hb : Sm ps) (hk : ps.length ≤ 40) (hs : Bag m o) (hn : m ≤ 100000000) (q : ∀ (T : Addr) (x : V) (d : PyData) (v : Option Nat) (N : Lg) (o' : HO), (Dv (N ++ L) x d) → (Sz 2000000 5 d) → (obsBad d = some v) → ((T, HO.tup [x, ixV v]) ∈ N) → (Bag (m + 6) o') → Tr ((a, o') :: (N ++ L)) (fun H => Q (.ref T) H)) : Tr L0 fun H => sp_law_no_seen [.ref a, .ref b] H Q E :=
  fun H l => ⟨a, b, xs, ps, m, o, L, rfl, l.pick hp0, hm, hx, hb, hk, hs, hn, q⟩

theorem ok_law_no_seen (D : Df K mg "_law_no_seen" s_law_no_seen) (B : Blt mg) (k__law_draw : Ok P w K mg base CX0 1 "_law_draw" ["bag", "many"] sp_law_draw) : Ok P w K mg base CX0 2 "_law_no_seen" ["bag", "seen"] sp_law_no_seen := by
  obtain ⟨f, fd, hm, F⟩ := D
  refine ⟨f, fd, hm, F.kp, F.binds (fun _ _ _ _ _ _ us hl => match us, hl with | [_, _], _ => rfl), FunOkG F sc_law_no_seen (fun vs H Q E h => ?_) (fun cdv A outer s H vs Q E hr h => ?_), F.lk⟩
  · obtain ⟨_, _, _, _, _, _, _, rfl, _⟩ := h; rfl
  obtain ⟨a, b, xs, ps, m, o, L, rfl, l, hm, hx, hb, hk, hs, hn, q⟩ := h
  refine ⟨_, PSs.nox (pss_cons (ps_set (i := 2) sc_law_no_seen.nd rfl (.inl rfl) (pe_callG k__law_draw (hr.mono (by omega)) pas0 (pa_cons (pv 0) (pa_cons (pe_op op_add (pe_callB c_len rfl B.len_ boot_len (pa_cons (pv 1) pa_nil)) pe_int) pa_nil))))
      (pss_cons (ps_set (i := 3) sc_law_no_seen.nd rfl (.inl rfl) (pe_ix ix_list (pe_lst (pa_cons (pe_un un_neg pe_int) (pa_cons pe_non (pa_cons pe_bl (pa_cons pe_str (pa_cons (pe_lst (pa_cons pe_int pa_nil)) (pa_cons (pe_tup (pa_cons pe_int (pa_cons pe_int pa_nil))) pa_nil))))))) (pe_callG k__law_draw (hr.mono (by omega)) pas0 (pa_cons (pv 0) (pa_cons pe_int pa_nil))) (fun _ _ => rfl)))
      (pss_cons (ps_set (i := 4) sc_law_no_seen.nd rfl (.inl rfl) (pe_ix ix_list (pe_lst (pa_cons (pe_tup (pa_cons pe_int (pa_cons (pv 3) pa_nil))) (pa_cons (pe_tup (pa_cons (pv 3) (pa_cons pe_int pa_nil))) (pa_cons (pe_lst (pa_cons pe_int (pa_cons pe_int pa_nil))) (pa_cons (pe_tup (pa_cons pe_int pa_nil)) (pa_cons (pe_tup (pa_cons pe_int (pa_cons pe_int (pa_cons pe_int pa_nil)))) (pa_cons pe_non (pa_cons pe_int (pa_cons (pe_tup pa_nil) pa_nil))))))))) (pe_callG k__law_draw (hr.mono (by omega)) pas0 (pa_cons (pv 0) (pa_cons pe_int pa_nil))) (fun _ _ => rfl)))
      (pss_cons (ps_set (i := 5) sc_law_no_seen.nd rfl (.inl rfl) (pe_op op_cat (pe_lst (pa_cons (pv 4) pa_nil)) (pe_op op_rep (pe_lst (pa_cons pe_non pa_nil)) (pe_callG k__law_draw (hr.mono (by omega)) pas0 (pa_cons (pv 0) (pa_cons pe_int pa_nil))))))
      (pss_cons (ps_set (i := 6) sc_law_no_seen.nd rfl (.inl rfl) (pe_slice sl_list (pv 1) po_none (po_some (pe_op op_sub pe_int (pe_callB c_len rfl B.len_ boot_len (pa_cons (pv 5) pa_nil))))))
      (pss_cons (ps_set (i := 2) sc_law_no_seen.nd rfl (.inl rfl) (pe_callB (c_min2 rfl) rfl B.min_ boot_min (pa_cons (pv 2) (pa_cons (pe_callB c_len rfl B.len_ boot_len (pa_cons (pv 6) pa_nil)) pa_nil))))
      (pss_cons (ps_set (i := 7) sc_law_no_seen.nd rfl (.inl rfl) (pe_ix ix_list (pe_lst (pa_cons pe_non (pa_cons pe_int (pa_cons (pe_callTy c_tuple rfl B.tuple_ boot_tuple (pa_cons (pv 1) pa_nil)) (pa_cons pe_dnewK (pa_cons (pe_tup (pa_cons pe_int (pa_cons pe_int pa_nil))) (pa_cons pe_str (pa_cons (pe_op op_rep (pe_lst (pa_cons (pe_tup (pa_cons pe_int (pa_cons pe_int pa_nil))) pa_nil)) pe_int) pa_nil)))))))) (pe_callG k__law_draw (hr.mono (by omega)) pas0 (pa_cons (pv 0) (pa_cons pe_int pa_nil))) (fun _ _ => rfl)))
      (pss_one (ps_ret (pe_ix ix_list (pe_lst (pa_cons (pe_tup (pa_cons (pe_op op_cat (pe_op op_cat (pe_slice sl_list (pv 6) po_none (po_some (pv 2))) (pv 5)) (pe_slice sl_list (pv 6) (po_some (pv 2)) po_none)) (pa_cons (pv 2) pa_nil))) (pa_cons (pe_tup (pa_cons (pv 7) (pa_cons pe_non pa_nil))) pa_nil))) (pe_callG k__law_draw (hr.mono (by omega)) pas0 (pa_cons (pv 0) (pa_cons pe_int pa_nil))) (fun _ _ => rfl))))))))))), ?_⟩
  rw [show L2.start ["bag", "seen", "at", "one", "odd", "more", "room", "whole"] [.ref a, .ref b] = [some (.ref a), some (.ref b), none, none, none, none, none, none] from rfl]
  refine Tr.of ?_ l
  obtain ⟨R_hm, P_hm⟩ := Pick.of_mem hm
  repeat walk_at "hz"
  obtain ⟨R, hp⟩ := Pick.of_mem hm
  have hl := hx.len
  repeat walk_at "hz"
  refine use_law_draw (by walk_at "pk") hs (by omega) (by omega) (by omega) fun u o_u ul uh hs => ?_
  repeat walk_at "hz"
  refine use_law_draw (by walk_at "pk") hs (by omega) (by omega) (by omega) fun e o_e el eh hs => ?_
  repeat walk_at "hz"
  rename_i pl pt pz
  obtain ⟨one, hone, om⟩ := at_memV (xs := [V.int (-1), .non, .bl true, .str "0", .ref pl, .ref pt]) el (by simpa using eh)
  refine t_ixL (by walk_at "pk") hone ?_
  repeat walk_at "hz"
  refine use_law_draw (by walk_at "pk") hs (by omega) (by omega) (by omega) fun f o_f fl fh hs => ?_
  repeat walk_at "hz"
  rename_i w6 w5 w4 w3 w2 w1 w0
  obtain ⟨odd, hodd, om2⟩ := at_memV (xs := [V.ref w6, .ref w5, .ref w4, .ref w3, .ref w2, .non, .int 0, .ref w1]) fl (by simpa using fh)
  refine t_ixL (by walk_at "pk") hodd ?_
  repeat walk_at "hz"
  refine use_law_draw (by walk_at "pk") hs (by omega) (by omega) (by omega) fun g o_g gl gh hs => ?_
  repeat walk_at "hz"
  rename_i z1 z0
  refine t_rep (by walk_at "pk") (by omega) (by omega) (by rw [sizeLine_eq]; simp; omega) fun z2 => ?_
  refine Tr.lcast (rep_non _) ?_
  refine t_cat (by walk_at "pk") (by walk_at "pk") (by rw [sizeLine_eq]; simp; omega) fun mo => ?_
  have ml : ([odd] ++ List.replicate g.toNat V.non).length = g.toNat + 1 := by simp
  repeat walk_at "hz"
  rename_i ro
  rw [cutV_to (by omega)]
  obtain ⟨r, hr⟩ : ∃ r, r = (40 - ((([odd] ++ List.replicate g.toNat V.non).length : Nat) : Int)).toNat := ⟨_, rfl⟩
  rw [← hr]
  have rl : (xs.take r).length ≤ 39 := by rw [List.length_take]; omega
  repeat walk_at "hz"
  obtain ⟨c, hc⟩ : ∃ c : Int, c = min u (((xs.take r).length : Nat) : Int) := ⟨_, rfl⟩
  rw [← hc]
  have c0 : 0 ≤ c ∧ c ≤ ((xs.take r).length : Nat) := by omega
  rename_i k6 k5 k4 k3 k2 k1 k0
  rw [rep_ref]
  refine use_law_draw (by walk_at "pk") hs (by omega) (by omega) (by omega) fun hh o_hh hhl hhh hs => ?_
  repeat walk_at "hz"
  obtain ⟨wv, hwv, om3⟩ := at_memV (xs := [V.non, .int 0, .ref k5, .ref k4, .ref k3, .str "", .ref k0]) hhl (by simpa using hhh)
  refine t_ixL (by walk_at "pk") hwv ?_
  repeat walk_at "hz"
  rw [cutV_to c0.1]
  repeat walk_at "hz"
  rw [cutV_from c0.1]
  repeat walk_at "hz"
  rename_i j6 j5 j4 j3 j2 j1 j0
  have b7 := hs
  refine use_law_draw (by walk_at "pk") hs (by omega) (by omega) (by omega) fun jj o_jj jjl jjh hs => ?_
  repeat walk_at "hz"
  obtain ⟨tv, htv, om4⟩ := at_memV (xs := [V.ref j2, .ref j1]) jjl (by simpa using jjh)
  refine t_ixL (by walk_at "pk") htv ?_
  repeat walk_at "hz"
  have hs2 : Bag (m + 6) o_jj := hs
  have s0 : Sz 30 0 (.str "0") := (Sz.str (by decide)).le (by decide) (by decide)
  have i0 : ∀ {i : Int}, i.natAbs < 2 ^ 5 → Sz 30 0 (.int i) := fun h => (Sz.int 5 (by decide) (by decide) h).le (by decide) (by decide)
  have z0 : ∀ {k : Nat}, ∀ d ∈ List.replicate k (PyData.int 0), Sz 30 0 d := fun d hd => by rw [(List.mem_replicate.mp hd).2]; exact i0 (by decide)
  have prs : Sz 40000 5 (prsD ps) := (Sz.prs 40 hb hk).le (by decide) (by decide)
  have one_ok : ∀ M : Lg, (pl, HO.lst [.int 0]) ∈ M → (pt, HO.tup [.int 0, .int 0]) ∈ M → ∃ on, Dv M one on ∧ Sz 200 2 on ∧ obsD (.tuple [.int 0, on]) = false ∧ obsD (.tuple [on, .int 0]) = false := by
    intro M m1 m2
    simp only [List.mem_cons, List.not_mem_nil, or_false] at om
    rcases om with e | e | e | e | e | e <;> rw [e]
    · exact ⟨_, .int _, (i0 (by decide)).le (by decide) (by decide), by decide, by decide⟩
    · exact ⟨_, .non, Sz.none.le (by decide) (by decide), rfl, rfl⟩
    · exact ⟨_, .bl _, (Sz.bool _).le (by decide) (by decide), rfl, rfl⟩
    · exact ⟨_, .str _, s0.le (by decide) (by decide), rfl, rfl⟩
    · exact ⟨_, .lst m1 (DvAll.ints [0]), (Sz.list (n := 30) (k := 0) 1 (z0 (k := 1)) (by decide)).le (by decide) (by decide), rfl, rfl⟩
    · exact ⟨_, .tup m2 (DvAll.ints [0, 0]), (Sz.tuple (n := 30) (k := 0) 2 (z0 (k := 2)) (by decide)).le (by decide) (by decide), rfl, rfl⟩
  have odd_ok : ∀ M : Lg, (pl, HO.lst [.int 0]) ∈ M → (pt, HO.tup [.int 0, .int 0]) ∈ M → (w6, HO.tup [.int 0, one]) ∈ M → (w5, HO.tup [one, .int 0]) ∈ M → (w4, HO.lst [.int 0, .int 0]) ∈ M → (w3, HO.tup [.int 0]) ∈ M → (w2, HO.tup [.int 0, .int 0, .int 0]) ∈ M → (w1, HO.tup []) ∈ M →
      ∃ od, Dv M odd od ∧ Sz 700 3 od ∧ obsD od = false := by
    intro M m1 m2 m6 m5 m4 m3 m2' m1'
    obtain ⟨on, h1, h2, h3, h4⟩ := one_ok M m1 m2
    have zz : Sz 200 2 (.int 0) := (i0 (by decide)).le (by decide) (by decide)
    simp only [List.mem_cons, List.not_mem_nil, or_false] at om2
    rcases om2 with e | e | e | e | e | e | e | e <;> rw [e]
    · exact ⟨_, .tup m6 (.cons (.int 0) (.cons h1 .nil)), (Sz.tuple (n := 200) (k := 2) 2 (fun d hd => by simp only [List.mem_cons, List.not_mem_nil, or_false] at hd; rcases hd with rfl | rfl; (· exact zz); exact h2) (by simp)).le (by decide) (by decide), h3⟩
    · exact ⟨_, .tup m5 (.cons h1 (.cons (.int 0) .nil)), (Sz.tuple (n := 200) (k := 2) 2 (fun d hd => by simp only [List.mem_cons, List.not_mem_nil, or_false] at hd; rcases hd with rfl | rfl; (· exact h2); exact zz) (by simp)).le (by decide) (by decide), h4⟩
    · exact ⟨_, .lst m4 (DvAll.ints [0, 0]), (Sz.list (n := 30) (k := 0) 2 (z0 (k := 2)) (by decide)).le (by decide) (by decide), rfl⟩
    · exact ⟨_, .tup m3 (DvAll.ints [0]), (Sz.tuple (n := 30) (k := 0) 1 (z0 (k := 1)) (by decide)).le (by decide) (by decide), rfl⟩
    · exact ⟨_, .tup m2' (DvAll.ints [0, 0, 0]), (Sz.tuple (n := 30) (k := 0) 3 (z0 (k := 3)) (by decide)).le (by decide) (by decide), rfl⟩
    · exact ⟨_, .non, Sz.none.le (by decide) (by decide), rfl⟩
    · exact ⟨_, .int _, (i0 (by decide)).le (by decide) (by decide), rfl⟩
    · exact ⟨_, .tup m1' .nil, (Sz.tuple (n := 30) (k := 0) 0 (fun _ h => absurd h (by simp)) (by decide)).le (by decide) (by decide), rfl⟩
  simp only [List.mem_cons, List.not_mem_nil, or_false] at om4
  rcases om4 with rfl | rfl
  · refine t_preW (T := j2) (x := .ref j3) (fun d v => Sz 2000000 5 d ∧ obsBad d = some v) (fun d v h1 h2 h3 => q j2 _ d v _ _ h1 h2.1 h2.2 h3 hs2) (by walk_at "pk") (by walk_at "pre") ?_
    suffices hodd : ∃ od, Dv _ odd od ∧ Sz 700 3 od ∧ obsD od = false by
      obtain ⟨od, h1, h2, h3⟩ := hodd
      have dx : DvAll L (xs.take r) ((ps.map prD).take r) := DvAll.take r (DtAll.dv hx)
      have lx : ((ps.map prD).take r).length = (xs.take r).length := by rw [List.length_take, List.length_take, List.length_map, hl]
      have dt : (((ps.map prD).take r).take c.toNat).length = c.toNat := by rw [List.length_take, lx]; omega
      have ok : ∀ d ∈ (ps.map prD).take r, obsD d = true := fun d hd => obsD_prs hb d (List.mem_of_mem_take hd)
      have rm : r = 40 - (g.toNat + 1) := by rw [hr, ml]; omega
      have ll : (xs.take r).length ≤ r := by rw [List.length_take]; exact Nat.min_le_left _ _
      refine ⟨.list (((ps.map prD).take r).take c.toNat ++ (od :: List.replicate g.toNat .none) ++ ((ps.map prD).take r).drop c.toNat), some c.toNat, .lst (by walk_at "mb") ((((DvAll.take _ dx).mono fun p hp => by walk_at "mb").app (.cons h1 (DvAll.rep .non _))).app ((DvAll.drop _ dx).mono fun p hp => by walk_at "mb")), ⟨(Sz.list (n := 800) (k := 3) 80 (fun d hd => ?_) ?_).le (by decide) (by decide), ?_⟩, ?_⟩
      · have pz : ∀ d ∈ (ps.map prD).take r, Sz 800 3 d := fun d hd => by
          obtain ⟨p, hp, rfl⟩ := List.mem_map.mp (List.mem_of_mem_take hd)
          exact (Sz.pr (hb p hp)).le (by decide) (by decide)
        rw [List.mem_append, List.mem_append, List.mem_cons] at hd
        rcases hd with (hd | rfl | hd) | hd
        · exact pz d (List.mem_of_mem_take hd)
        · exact h2.le (by decide) (by decide)
        · rw [(List.mem_replicate.mp hd).2]; exact Sz.none.le (by decide) (by decide)
        · exact pz d (List.mem_of_mem_drop hd)
      · rw [List.length_append, List.length_append, dt, List.length_cons, List.length_replicate, List.length_drop, lx]; omega
      · rw [obsBad_list, if_neg (by rw [List.length_append, List.length_append, dt, List.length_cons, List.length_replicate, List.length_drop, lx]; omega), List.append_assoc, List.cons_append, badAt_at (fun d hd => ok d (List.mem_of_mem_take hd)) h3, dt]; rfl
      · rw [show ixV (some c.toNat) = .int c by show V.int ((c.toNat : Nat) : Int) = _; rw [Int.toNat_of_nonneg c0.1]]
        walk_at "mb"
    exact odd_ok _ (by walk_at "mb") (by walk_at "mb") (by walk_at "mb") (by walk_at "mb") (by walk_at "mb") (by walk_at "mb") (by walk_at "mb") (by walk_at "mb")
  · refine t_preW (T := j1) (x := wv) (fun d v => Sz 2000000 5 d ∧ obsBad d = some v) (fun d v h1 h2 h3 => q j1 _ d v _ _ h1 h2.1 h2.2 h3 hs2) (by walk_at "pk") (by walk_at "pre") ?_
    simp only [List.mem_cons, List.not_mem_nil, or_false] at om3
    rcases om3 with rfl | rfl | rfl | rfl | rfl | rfl | rfl
    · exact ⟨_, none, .non, ⟨Sz.none.le (by decide) (by decide), rfl⟩, (by walk_at "mb")⟩
    · exact ⟨_, none, .int _, ⟨(i0 (by decide)).le (by decide) (by decide), rfl⟩, (by walk_at "mb")⟩
    · exact ⟨.tuple (ps.map prD), none, .tup (by walk_at "mb") ((DtAll.dv hx).mono fun p hp => by walk_at "mb"), ⟨(Sz.tuple (n := 300) (k := 1) 40 (fun d hd => by obtain ⟨p, hp, rfl⟩ := List.mem_map.mp hd; exact Sz.pr (hb p hp)) (by simpa using hk)).le (by decide) (by decide), rfl⟩, (by walk_at "mb")⟩
    · exact ⟨_, none, .dct (by walk_at "mb"), ⟨Sz.dct.le (by decide) (by decide), rfl⟩, (by walk_at "mb")⟩
    · exact ⟨_, none, .tup (by walk_at "mb") (DvAll.ints [0, 0]), ⟨(Sz.tuple (n := 30) (k := 0) 2 (z0 (k := 2)) (by decide)).le (by decide) (by decide), rfl⟩, (by walk_at "mb")⟩
    · exact ⟨_, none, .str _, ⟨(Sz.str (by decide)).le (by decide) (by decide), rfl⟩, (by walk_at "mb")⟩
    · exact ⟨.list (List.replicate 41 (.tuple [.int 0, .int 0])), none, .lst (by walk_at "mb") (DvAll.rep (.tup (by walk_at "mb") (DvAll.ints [0, 0])) 41), ⟨(Sz.list (n := 200) (k := 1) 41 (fun d hd => by rw [(List.mem_replicate.mp hd).2]; exact (Sz.tuple (n := 30) (k := 0) 2 (z0 (k := 2)) (by decide)).le (by decide) (by decide)) (by decide)).le (by decide) (by decide), rfl⟩, (by walk_at "mb")⟩

abbrev i_InvalidObservationsError : Stmt := inCls (topS 19) 0
theorem si_InvalidObservationsError : FnScope ["self", "index"] ["self", "index"] (defScope i_InvalidObservationsError) := ⟨rfl, rfl, rfl, by decide +kernel, rfl, by decide +kernel, by decide +kernel⟩
theorem bi_InvalidObservationsError {S fI : Addr} {cd : Value} (hm : mg "StickyHeadsError" = some (.ref S)) (r : ClX.CRead K S (.type "type")) (v : PySem.W.findCls K (.ref S) (.type "type") "__init__" = some (.val (.builtin "ValueError.__init__"))) (A : Around) (outer : List Env) (s : Shared) (H : Hp) (E : XK) :
    PSs (cxOf CX0 P w K mg base ["self", "index"] "InvalidObservationsError.__init__" (defScope i_InvalidObservationsError) fI cd A outer s H E).nox (defBody i_InvalidObservationsError) (tIni K "invalid observations" "index") :=
  pss_cons (ps_expr (pe_cinit rfl hm r v (by exact (pa_cons (pv 0) (pa_cons pe_str pa_nil))))) (pss_one (ps_ost (pv 0) (pv 1)))
/-- what _law_kind answers -/
inductive KindV (v : V) : Nat → V → Lg → Prop where
  | out : KindV v 0 (.str "outline") []
  | num : KindV v 1 (.str "number") []
  | obs {T : Addr} {N : Lg} (m : (T, HO.tup [.str "index", v]) ∈ N) : KindV v 2 (.ref T) N
def sp_law_kind (C_InvalidNumberError C_InvalidObservationsError C_InvalidOutlineError : Addr) : Sp := fun vs H Q E => ∃ (a C : Addr) (d : Option Addr) (v : V) (k : Nat) (L : Lg), vs = [.ref a] ∧ Led H (L) ∧ ((a, exF a C d) ∈ L) ∧ ((k = 0 ∧ C = C_InvalidOutlineError ∧ d = none) ∨ (k = 1 ∧ C = C_InvalidNumberError ∧ d = none) ∨ (k = 2 ∧ C = C_InvalidObservationsError ∧ ∃ dx, d = some dx ∧ (dx, HO.xd [("index", v)]) ∈ L)) ∧ ∀ (w : V) (N : Lg), (KindV v k w N) → Tr ((N ++ L)) (fun H => Q (w) H)
theorem use_law_kind {L : Lg} {Q : VK} {E : XK} {a C : Addr} {d : Option Addr} {v : V} {k : Nat} (he : (a, exF a C d) ∈ L) (hd : (k = 0 ∧ C = C_InvalidOutlineError ∧ d = none) ∨ (k = 1 ∧ C = C_InvalidNumberError ∧ d = none) ∨ (k = 2 ∧ C = C_InvalidObservationsError ∧ ∃ dx, d = some dx ∧ (dx, HO.xd [("index", v)]) ∈ L)) (q : ∀ (w : V) (N : Lg), (KindV v k w N) → Tr ((N ++ L)) (fun H => Q (w) H)) : Tr L fun H => sp_law_kind C_InvalidNumberError C_InvalidObservationsError C_InvalidOutlineError [.ref a] H Q E :=
  fun H l => ⟨a, C, d, v, k, L, rfl, l, he, hd, q⟩

theorem ok_law_kind {C_EmptyHistoryError C_EmptyOutlineError C_EndError C_HiddenLineError C_InvalidDepthError C_InvalidDocumentError C_InvalidFoldsError C_InvalidHeightError C_InvalidLineError C_InvalidNumberError C_InvalidObservationsError C_InvalidOutlineError C_InvalidReadingError C_InvalidScrollError C_InvalidTextError C_InvalidTitleError C_TooDeepError C_TooManyLinesError : Addr} (D : Df K mg "_law_kind" s_law_kind) (B : Blt mg) (T_InvalidObservationsError : Sbj K C_InvalidObservationsError) (nf_InvalidObservationsError : PySem.W.findIn K (.ref C_InvalidObservationsError) "index" = some none) (g_EmptyHistoryError : GV mg "EmptyHistoryError" (.ref C_EmptyHistoryError)) (g_EndError : GV mg "EndError" (.ref C_EndError)) (g_HiddenLineError : GV mg "HiddenLineError" (.ref C_HiddenLineError)) (g_InvalidDepthError : GV mg "InvalidDepthError" (.ref C_InvalidDepthError)) (g_InvalidDocumentError : GV mg "InvalidDocumentError" (.ref C_InvalidDocumentError)) (g_InvalidFoldsError : GV mg "InvalidFoldsError" (.ref C_InvalidFoldsError)) (g_InvalidHeightError : GV mg "InvalidHeightError" (.ref C_InvalidHeightError)) (g_InvalidLineError : GV mg "InvalidLineError" (.ref C_InvalidLineError)) (g_InvalidReadingError : GV mg "InvalidReadingError" (.ref C_InvalidReadingError)) (g_InvalidScrollError : GV mg "InvalidScrollError" (.ref C_InvalidScrollError)) (g_InvalidTextError : GV mg "InvalidTextError" (.ref C_InvalidTextError)) (g_InvalidTitleError : GV mg "InvalidTitleError" (.ref C_InvalidTitleError)) (g_TooDeepError : GV mg "TooDeepError" (.ref C_TooDeepError)) (g_TooManyLinesError : GV mg "TooManyLinesError" (.ref C_TooManyLinesError)) (g_EmptyOutlineError : GV mg "EmptyOutlineError" (.ref C_EmptyOutlineError)) (g_InvalidOutlineError : GV mg "InvalidOutlineError" (.ref C_InvalidOutlineError)) (g_InvalidNumberError : GV mg "InvalidNumberError" (.ref C_InvalidNumberError)) (g_InvalidObservationsError : GV mg "InvalidObservationsError" (.ref C_InvalidObservationsError)) (n_ValueError : mg "ValueError" = none) (T_InvalidOutlineError : Sbj K C_InvalidOutlineError) (i_InvalidOutlineError_EmptyHistoryError : PySem.W.kitOne K (.ref C_InvalidOutlineError) (.ref C_EmptyHistoryError) = some false) (i_InvalidOutlineError_EndError : PySem.W.kitOne K (.ref C_InvalidOutlineError) (.ref C_EndError) = some false) (i_InvalidOutlineError_HiddenLineError : PySem.W.kitOne K (.ref C_InvalidOutlineError) (.ref C_HiddenLineError) = some false) (i_InvalidOutlineError_InvalidDepthError : PySem.W.kitOne K (.ref C_InvalidOutlineError) (.ref C_InvalidDepthError) = some false) (i_InvalidOutlineError_InvalidDocumentError : PySem.W.kitOne K (.ref C_InvalidOutlineError) (.ref C_InvalidDocumentError) = some false) (i_InvalidOutlineError_InvalidFoldsError : PySem.W.kitOne K (.ref C_InvalidOutlineError) (.ref C_InvalidFoldsError) = some false) (i_InvalidOutlineError_InvalidHeightError : PySem.W.kitOne K (.ref C_InvalidOutlineError) (.ref C_InvalidHeightError) = some false) (i_InvalidOutlineError_InvalidLineError : PySem.W.kitOne K (.ref C_InvalidOutlineError) (.ref C_InvalidLineError) = some false) (i_InvalidOutlineError_InvalidReadingError : PySem.W.kitOne K (.ref C_InvalidOutlineError) (.ref C_InvalidReadingError) = some false) (i_InvalidOutlineError_InvalidScrollError : PySem.W.kitOne K (.ref C_InvalidOutlineError) (.ref C_InvalidScrollError) = some false) (i_InvalidOutlineError_InvalidTextError : PySem.W.kitOne K (.ref C_InvalidOutlineError) (.ref C_InvalidTextError) = some false) (i_InvalidOutlineError_InvalidTitleError : PySem.W.kitOne K (.ref C_InvalidOutlineError) (.ref C_InvalidTitleError) = some false) (i_InvalidOutlineError_TooDeepError : PySem.W.kitOne K (.ref C_InvalidOutlineError) (.ref C_TooDeepError) = some false) (i_InvalidOutlineError_TooManyLinesError : PySem.W.kitOne K (.ref C_InvalidOutlineError) (.ref C_TooManyLinesError) = some false) (i_InvalidOutlineError_EmptyOutlineError : PySem.W.kitOne K (.ref C_InvalidOutlineError) (.ref C_EmptyOutlineError) = some false) (i_InvalidOutlineError_InvalidOutlineError : PySem.W.kitOne K (.ref C_InvalidOutlineError) (.ref C_InvalidOutlineError) = some true) (i_InvalidOutlineError_InvalidNumberError : PySem.W.kitOne K (.ref C_InvalidOutlineError) (.ref C_InvalidNumberError) = some false) (i_InvalidOutlineError_InvalidObservationsError : PySem.W.kitOne K (.ref C_InvalidOutlineError) (.ref C_InvalidObservationsError) = some false) (iv_InvalidOutlineError : PySem.W.kitOne K (.ref C_InvalidOutlineError) (.type "ValueError") = some true) (T_InvalidNumberError : Sbj K C_InvalidNumberError) (i_InvalidNumberError_EmptyHistoryError : PySem.W.kitOne K (.ref C_InvalidNumberError) (.ref C_EmptyHistoryError) = some false) (i_InvalidNumberError_EndError : PySem.W.kitOne K (.ref C_InvalidNumberError) (.ref C_EndError) = some false) (i_InvalidNumberError_HiddenLineError : PySem.W.kitOne K (.ref C_InvalidNumberError) (.ref C_HiddenLineError) = some false) (i_InvalidNumberError_InvalidDepthError : PySem.W.kitOne K (.ref C_InvalidNumberError) (.ref C_InvalidDepthError) = some false) (i_InvalidNumberError_InvalidDocumentError : PySem.W.kitOne K (.ref C_InvalidNumberError) (.ref C_InvalidDocumentError) = some false) (i_InvalidNumberError_InvalidFoldsError : PySem.W.kitOne K (.ref C_InvalidNumberError) (.ref C_InvalidFoldsError) = some false) (i_InvalidNumberError_InvalidHeightError : PySem.W.kitOne K (.ref C_InvalidNumberError) (.ref C_InvalidHeightError) = some false) (i_InvalidNumberError_InvalidLineError : PySem.W.kitOne K (.ref C_InvalidNumberError) (.ref C_InvalidLineError) = some false) (i_InvalidNumberError_InvalidReadingError : PySem.W.kitOne K (.ref C_InvalidNumberError) (.ref C_InvalidReadingError) = some false) (i_InvalidNumberError_InvalidScrollError : PySem.W.kitOne K (.ref C_InvalidNumberError) (.ref C_InvalidScrollError) = some false) (i_InvalidNumberError_InvalidTextError : PySem.W.kitOne K (.ref C_InvalidNumberError) (.ref C_InvalidTextError) = some false) (i_InvalidNumberError_InvalidTitleError : PySem.W.kitOne K (.ref C_InvalidNumberError) (.ref C_InvalidTitleError) = some false) (i_InvalidNumberError_TooDeepError : PySem.W.kitOne K (.ref C_InvalidNumberError) (.ref C_TooDeepError) = some false) (i_InvalidNumberError_TooManyLinesError : PySem.W.kitOne K (.ref C_InvalidNumberError) (.ref C_TooManyLinesError) = some false) (i_InvalidNumberError_EmptyOutlineError : PySem.W.kitOne K (.ref C_InvalidNumberError) (.ref C_EmptyOutlineError) = some false) (i_InvalidNumberError_InvalidOutlineError : PySem.W.kitOne K (.ref C_InvalidNumberError) (.ref C_InvalidOutlineError) = some false) (i_InvalidNumberError_InvalidNumberError : PySem.W.kitOne K (.ref C_InvalidNumberError) (.ref C_InvalidNumberError) = some true) (i_InvalidNumberError_InvalidObservationsError : PySem.W.kitOne K (.ref C_InvalidNumberError) (.ref C_InvalidObservationsError) = some false) (iv_InvalidNumberError : PySem.W.kitOne K (.ref C_InvalidNumberError) (.type "ValueError") = some true) (i_InvalidObservationsError_EmptyHistoryError : PySem.W.kitOne K (.ref C_InvalidObservationsError) (.ref C_EmptyHistoryError) = some false) (i_InvalidObservationsError_EndError : PySem.W.kitOne K (.ref C_InvalidObservationsError) (.ref C_EndError) = some false) (i_InvalidObservationsError_HiddenLineError : PySem.W.kitOne K (.ref C_InvalidObservationsError) (.ref C_HiddenLineError) = some false) (i_InvalidObservationsError_InvalidDepthError : PySem.W.kitOne K (.ref C_InvalidObservationsError) (.ref C_InvalidDepthError) = some false) (i_InvalidObservationsError_InvalidDocumentError : PySem.W.kitOne K (.ref C_InvalidObservationsError) (.ref C_InvalidDocumentError) = some false) (i_InvalidObservationsError_InvalidFoldsError : PySem.W.kitOne K (.ref C_InvalidObservationsError) (.ref C_InvalidFoldsError) = some false) (i_InvalidObservationsError_InvalidHeightError : PySem.W.kitOne K (.ref C_InvalidObservationsError) (.ref C_InvalidHeightError) = some false) (i_InvalidObservationsError_InvalidLineError : PySem.W.kitOne K (.ref C_InvalidObservationsError) (.ref C_InvalidLineError) = some false) (i_InvalidObservationsError_InvalidReadingError : PySem.W.kitOne K (.ref C_InvalidObservationsError) (.ref C_InvalidReadingError) = some false) (i_InvalidObservationsError_InvalidScrollError : PySem.W.kitOne K (.ref C_InvalidObservationsError) (.ref C_InvalidScrollError) = some false) (i_InvalidObservationsError_InvalidTextError : PySem.W.kitOne K (.ref C_InvalidObservationsError) (.ref C_InvalidTextError) = some false) (i_InvalidObservationsError_InvalidTitleError : PySem.W.kitOne K (.ref C_InvalidObservationsError) (.ref C_InvalidTitleError) = some false) (i_InvalidObservationsError_TooDeepError : PySem.W.kitOne K (.ref C_InvalidObservationsError) (.ref C_TooDeepError) = some false) (i_InvalidObservationsError_TooManyLinesError : PySem.W.kitOne K (.ref C_InvalidObservationsError) (.ref C_TooManyLinesError) = some false) (i_InvalidObservationsError_EmptyOutlineError : PySem.W.kitOne K (.ref C_InvalidObservationsError) (.ref C_EmptyOutlineError) = some false) (i_InvalidObservationsError_InvalidOutlineError : PySem.W.kitOne K (.ref C_InvalidObservationsError) (.ref C_InvalidOutlineError) = some false) (i_InvalidObservationsError_InvalidNumberError : PySem.W.kitOne K (.ref C_InvalidObservationsError) (.ref C_InvalidNumberError) = some false) (i_InvalidObservationsError_InvalidObservationsError : PySem.W.kitOne K (.ref C_InvalidObservationsError) (.ref C_InvalidObservationsError) = some true) (iv_InvalidObservationsError : PySem.W.kitOne K (.ref C_InvalidObservationsError) (.type "ValueError") = some true) : Ok P w K mg base CX0 1 "_law_kind" ["caught"] (sp_law_kind C_InvalidNumberError C_InvalidObservationsError C_InvalidOutlineError) := by
  obtain ⟨f, fd, hm, F⟩ := D
  refine ⟨f, fd, hm, F.kp, F.binds (fun _ _ _ _ _ _ us hl => match us, hl with | [_], _ => rfl), FunOkG F sc_law_kind (fun vs H Q E h => ?_) (fun cdv A outer s H vs Q E hr h => ?_), F.lk⟩
  · obtain ⟨_, _, _, _, _, _, rfl, _⟩ := h; rfl
  obtain ⟨a, C, d, v, k, L, rfl, l, he, hd, q⟩ := h
  refine ⟨_, PSs.nox (pss_cons (ps_set (i := 1) sc_law_kind.nd rfl (.inl rfl) (pe_callB (show CallR _ (.builtin "isinstance") (rIsET K) from c_isET) rfl B.isinstance_ boot_isinstance (pa_cons (pv 0) (pa_cons (pe_tup (pa_cons (pe_gv g_EmptyHistoryError) (pa_cons (pe_gv g_EndError) (pa_cons (pe_gv g_HiddenLineError) (pa_cons (pe_gv g_InvalidDepthError) (pa_cons (pe_gv g_InvalidDocumentError) pa_nil)))))) pa_nil))))
      (pss_cons (ps_set (i := 1) sc_law_kind.nd rfl (.inl rfl) (pe_or (pv 1) (pe_one (pe_callB (show CallR _ (.builtin "isinstance") (rIsET K) from c_isET) rfl B.isinstance_ boot_isinstance (pa_cons (pv 0) (pa_cons (pe_tup (pa_cons (pe_gv g_InvalidFoldsError) (pa_cons (pe_gv g_InvalidHeightError) (pa_cons (pe_gv g_InvalidLineError) (pa_cons (pe_gv g_InvalidReadingError) pa_nil))))) pa_nil))))))
      (pss_cons (ps_set (i := 1) sc_law_kind.nd rfl (.inl rfl) (pe_or (pv 1) (pe_one (pe_callB (show CallR _ (.builtin "isinstance") (rIsET K) from c_isET) rfl B.isinstance_ boot_isinstance (pa_cons (pv 0) (pa_cons (pe_tup (pa_cons (pe_gv g_InvalidScrollError) (pa_cons (pe_gv g_InvalidTextError) (pa_cons (pe_gv g_InvalidTitleError) (pa_cons (pe_gv g_TooDeepError) pa_nil))))) pa_nil))))))
      (pss_cons (ps_set (i := 1) sc_law_kind.nd rfl (.inl rfl) (pe_or (pv 1) (pe_or (pe_callB (show CallR _ (.builtin "isinstance") (rIsET K) from c_isET) rfl B.isinstance_ boot_isinstance (pa_cons (pv 0) (pa_cons (pe_tup (pa_cons (pe_gv g_TooManyLinesError) (pa_cons (pe_gv g_EmptyOutlineError) pa_nil))) pa_nil))) (pe_one (pe_not (pe_callB (show CallR _ (.builtin "isinstance") (rIsE K) from c_isE) rfl B.isinstance_ boot_isinstance (pa_cons (pv 0) (pa_cons (pe_ty n_ValueError PyProof.Rows.Boot.«ValueError») pa_nil))))))))
      (pss_cons (ps_set (i := 2) sc_law_kind.nd rfl (.inl rfl) (pe_lst (pa_cons (pe_callB (show CallR _ (.builtin "isinstance") (rIsE K) from c_isE) rfl B.isinstance_ boot_isinstance (pa_cons (pv 0) (pa_cons (pe_gv g_InvalidOutlineError) pa_nil))) (pa_cons (pe_callB (show CallR _ (.builtin "isinstance") (rIsE K) from c_isE) rfl B.isinstance_ boot_isinstance (pa_cons (pv 0) (pa_cons (pe_gv g_InvalidNumberError) pa_nil))) pa_nil))))
      (pss_cons (ps_expr (pe_bm PySem.F.plainAttrs_list PySem.F.slot_list_append PySem.F.type_list_append mt_append (pv 2) (pa_cons (pe_callB (show CallR _ (.builtin "isinstance") (rIsE K) from c_isE) rfl B.isinstance_ boot_isinstance (pa_cons (pv 0) (pa_cons (pe_gv g_InvalidObservationsError) pa_nil))) pa_nil)))
      (pss_cons (ps_if (PW.pt (pw_or (pt_val (pv 1)) (pw_or1 (pt_cmpR op_ne (pe_bm PySem.F.plainAttrs_list PySem.F.slot_list_count PySem.F.type_list_count mt_countB (pv 2) (pa_cons pe_bl pa_nil)) pe_int (nomark _))))) (pss_one (ps_ret pe_str))
        pss_nil)
      (pss_one (ps_ret (pe_ifExp (pt_val (pe_ix ix_list (pv 2) pe_int (fun _ _ => rfl))) (pe_tup (pa_cons pe_str (pa_cons (show PE _ _ (tExA K _ _) from (pe_exA (pv 0))) pa_nil))) (pe_ix ix_list (pe_lst (pa_cons pe_str (pa_cons pe_str pa_nil))) (pe_bm PySem.F.plainAttrs_list PySem.F.slot_list_index PySem.F.type_list_index mt_index (pv 2) (pa_cons pe_bl pa_nil)) (fun _ _ => rfl)))))))))))), ?_⟩
  rw [show L2.start ["caught", "odd", "some"] [.ref a] = [some (.ref a), none, none] from rfl]
  refine Tr.of ?_ l
  obtain ⟨R_he, P_he⟩ := Pick.of_mem he
  repeat walk_at "hz"
  rcases hd with ⟨rfl, rfl, rfl⟩ | ⟨rfl, rfl, rfl⟩ | ⟨rfl, rfl, dx, rfl, hx⟩
  · repeat walk_at "hz"
    refine t_countB (bs := [true, false, false]) (by walk_at "pk") ?_
    repeat walk_at "hz"
    refine t_indexB (bs := [true, false, false]) 0 (by walk_at "pk") rfl (fun m hm => by omega) ?_
    repeat walk_at "hz"
    exact (q _ [] .out).sub (by walk_at "sb")
  · repeat walk_at "hz"
    refine t_countB (bs := [false, true, false]) (by walk_at "pk") ?_
    repeat walk_at "hz"
    refine t_indexB (bs := [false, true, false]) 1 (by walk_at "pk") rfl (fun m hm => by cases m with | zero => decide | succ m => omega) ?_
    repeat walk_at "hz"
    exact (q _ [] .num).sub (by walk_at "sb")
  · obtain ⟨R_x, P_x⟩ := Pick.of_mem hx
    repeat walk_at "hz"
    refine t_countB (bs := [false, false, true]) (by walk_at "pk") ?_
    repeat walk_at "hz"
    rename_i pt
    exact (q (.ref pt) [(pt, _)] (.obs (.head _))).sub (by walk_at "sb")
def ixD : Option Nat → PyData
  | none => .none
  | some k => .int (k : Nat)
/-- the word for an error, or "none" -/
def errD (out e1 : Bool) (o : Option (Option Nat)) : PyData := if e1 = false then .str (if out = true then "outline" else "number") else match o with
  | none => .str "none"
  | some v => .tuple [.str "index", ixD v]
theorem ix_dt {L : Lg} (v : Option Nat) : Dt L (ixV v) (ixD v) := by
  cases v with
  | none => exact .non
  | some k => exact .int _
theorem KindV.dt {v : Option Nat} {w : V} {N : Lg} (h : KindV (ixV v) 2 w N) : Dt N w (.tuple [.str "index", ixD v]) := by
  cases h with
  | obs m => exact .tup m (.cons (.str _) (.cons (ix_dt v) .nil))
def sp_law_error  : Sp := fun vs H Q E => ∃ (door : Int) (x y : V) (c d : PyData) (e1 : Bool) (L : Lg), vs = [.int door, x, y] ∧ Led H (L) ∧ (0 ≤ door) ∧ (door < 4) ∧ (Dv L y d) ∧ (Dv L x c) ∧ (door = 0 → e1 = outD c) ∧ (door ≠ 0 → e1 = numOk x) ∧ (door = 0 → e1 = true → obsBad d = none → ∃ a ns b xs ps, x = .ref a ∧ (a, HO.lst (ns.map V.int)) ∈ L ∧ Outline ns ∧ ObsGood L y b xs ps) ∧ (door ≠ 0 → obsBad d = none → ∃ b xs ps, ObsGood L y b xs ps) ∧ ∀ (w : V) (N : Lg), (Dt N w (errD (decide (door = 0)) e1 (obsBad d))) → Tr ((N ++ L)) (fun H => Q (w) H)
theorem use_law_error {L : Lg} {Q : VK} {E : XK} {door : Int} {x y : V} {c d : PyData} {e1 : Bool} (h0 : 0 ≤ door) (h1 : door < 4) (hd : Dv L y d) (hc : Dv L x c) (hx0 : door = 0 → e1 = outD c) (hx1 : door ≠ 0 → e1 = numOk x) (hg0 : door = 0 → e1 = true → obsBad d = none → ∃ a ns b xs ps, x = .ref a ∧ (a, HO.lst (ns.map V.int)) ∈ L ∧ Outline ns ∧ ObsGood L y b xs ps) (hg1 : door ≠ 0 → obsBad d = none → ∃ b xs ps, ObsGood L y b xs ps) (q : ∀ (w : V) (N : Lg), (Dt N w (errD (decide (door = 0)) e1 (obsBad d))) → Tr ((N ++ L)) (fun H => Q (w) H)) : Tr L fun H => sp_law_error [.int door, x, y] H Q E :=
  fun H l => ⟨door, x, y, c, d, e1, L, rfl, l, h0, h1, hd, hc, hx0, hx1, hg0, hg1, q⟩

theorem ok_law_error {C_InvalidNumberError C_InvalidObservationsError C_InvalidOutlineError C_StickyHeadsError : Addr} (D : Df K mg "_law_error" s_law_error) (B : Blt mg) (k_fits : Ok P w K mg base (L2N.CX P w) 4 "fits" ["outline", "observations"] (sp_fits C_InvalidOutlineError C_InvalidObservationsError)) (k_depth_bounds : Ok P w K mg base (L2N.CX P w) 4 "depth_bounds" ["lines", "observations"] (sp_depth_bounds C_InvalidNumberError C_InvalidObservationsError)) (k_conflict : Ok P w K mg base (L2N.CX P w) 4 "conflict" ["lines", "observations"] (sp_conflict C_InvalidNumberError C_InvalidObservationsError)) (k_count_fitting : Ok P w K mg base (L2N.CX P w) 4 "count_fitting" ["lines", "observations"] (sp_count_fitting C_InvalidNumberError C_InvalidObservationsError)) (k__law_kind : Ok P w K mg base CX0 1 "_law_kind" ["caught"] (sp_law_kind C_InvalidNumberError C_InvalidObservationsError C_InvalidOutlineError)) (g_StickyHeadsError : GV mg "StickyHeadsError" (.ref C_StickyHeadsError)) (m_InvalidOutlineError_StickyHeadsError : PySem.W.exmOne K (.ref C_InvalidOutlineError) (.ref C_StickyHeadsError) = some true) (m_InvalidNumberError_StickyHeadsError : PySem.W.exmOne K (.ref C_InvalidNumberError) (.ref C_StickyHeadsError) = some true) (m_InvalidObservationsError_StickyHeadsError : PySem.W.exmOne K (.ref C_InvalidObservationsError) (.ref C_StickyHeadsError) = some true) : Ok P w K mg base CX0 5 "_law_error" ["door", "one", "two"] sp_law_error := by
  obtain ⟨f, fd, hm, F⟩ := D
  refine ⟨f, fd, hm, F.kp, F.binds (fun _ _ _ _ _ _ us hl => match us, hl with | [_, _, _], _ => rfl), FunOkG F sc_law_error (fun vs H Q E h => ?_) (fun cdv A outer s H vs Q E hr h => ?_), F.lk⟩
  · obtain ⟨_, _, _, _, _, _, _, rfl, _⟩ := h; rfl
  obtain ⟨door, x, y, c, d, e1, L, rfl, l, h0, h1, hd, hc, hx0, hx1, hg0, hg1, q⟩ := h
  obtain ⟨A_fits, v_fits, F_fits⟩ := ok_fv k_fits
  obtain ⟨A_depth_bounds, v_depth_bounds, F_depth_bounds⟩ := ok_fv k_depth_bounds
  obtain ⟨A_conflict, v_conflict, F_conflict⟩ := ok_fv k_conflict
  obtain ⟨A_count_fitting, v_count_fitting, F_count_fitting⟩ := ok_fv k_count_fitting
  refine ⟨_, PSs.nox (pss_cons (ps_set (i := 3) sc_law_error.nd rfl (.inl rfl) pe_non)
      (pss_cons (ps_try_cat (i := 4) rfl rfl sc_law_error.nd rfl rfl ⟨rfl, by decide, .inl g_StickyHeadsError.ref⟩ (fun W pn xe tk po => (pss_one (ps_expr (show PE _ _ (tCallV (FO P w K mg base (L2N.CX P w) _) _ _ _) from (pe_callV hr (fun σ => L2N.passAt tk σ) (pe_ix (show IxR _ (rIxL K) from ix_list) (pe_lst (pa_cons (pe_gv v_fits) (pa_cons (pe_gv v_depth_bounds) (pa_cons (pe_gv v_conflict) (pa_cons (pe_gv v_count_fitting) pa_nil))))) (pv 0) (fun _ _ => rfl)) (pa_cons (pv 1) (pa_cons (pv 2) pa_nil))))))) (fun a pn => (pss_one (ps_set (i := 3) sc_law_error.nd rfl (.inl rfl) (pv 4)))))
      (pss_one (ps_ret (pe_ifExp (pt_cmpR op_isN1 (pv 3) pe_non (nomark _)) pe_str (pe_callG k__law_kind (hr.mono (by omega)) pas0 (pa_cons (pv 3) pa_nil))))))), ?_⟩
  rw [show L2.start ["door", "one", "two", "caught", "e"] [.int door, x, y] = [some (.int door), some x, some y, none, none] from rfl]
  refine Tr.of ?_ l
  repeat walk_at "hz"
  have num : door ≠ 0 → decide (door = 0) = false := fun h => decide_eq_false h
  obtain rfl | rfl | rfl | rfl : door = 0 ∨ door = 1 ∨ door = 2 ∨ door = 3 := by omega
  · obtain rfl := hx0 rfl
    repeat walk_at "hz"
    refine t_FV (F_fits _ (by omega)) ?_
    repeat walk_at "hz"
    rename_i p0
    have mo : ∀ {o : HO}, ∀ p ∈ L, p ∈ (p0, o) :: L := fun p hp => .tail _ hp
    refine use_fits (hc.mono mo).outIs (hd.mono mo) (fun e1 e2 => by obtain ⟨a, ns, b, xs, ps, g1, g2, g3, g4⟩ := hg0 rfl e1 e2; exact ⟨a, ns, b, xs, ps, g1, mo _ g2, g3, g4.mono mo⟩) (fun ⟨e, e2⟩ z N => ?_) (fun e => ?_) fun v ⟨e, e2⟩ dx => ?_
    · repeat walk_at "hz"
      exact (q (.str "none") [] (by rw [e, e2]; exact .str _)).sub (by walk_at "sb")
    · refine t_catch m_InvalidOutlineError_StickyHeadsError fun e0 => ?_
      repeat walk_at "hz"
      refine use_law_kind (v := .non) (by walk_at "mb") (.inl ⟨rfl, rfl, rfl⟩) fun w N hk => ?_
      cases hk
      exact (q _ [] (by rw [e]; exact .str _)).sub (by walk_at "sb")
    · refine t_catch m_InvalidObservationsError_StickyHeadsError fun e0 => ?_
      repeat walk_at "hz"
      refine use_law_kind (v := ixV v) (by walk_at "mb") (.inr (.inr ⟨rfl, rfl, dx, rfl, (by walk_at "mb")⟩)) fun w N hk => ?_
      exact (q w N (by rw [e, e2]; exact hk.dt)).sub (by walk_at "sb")
  · obtain rfl := hx1 (by decide)
    repeat walk_at "hz"
    refine t_FV (F_depth_bounds _ (by omega)) ?_
    repeat walk_at "hz"
    rename_i p0
    have mo : ∀ {o : HO}, ∀ p ∈ L, p ∈ (p0, o) :: L := fun p hp => .tail _ hp
    refine use_depth_bounds (hc.mono mo).ty (hd.mono mo) (fun e2 => by obtain ⟨b, xs, ps, g4⟩ := hg1 (by decide) e2; exact ⟨b, xs, ps, g4.mono mo⟩) (fun ⟨e, e2⟩ z N => ?_) (fun e => ?_) fun v ⟨e, e2⟩ dx => ?_
    · repeat walk_at "hz"
      exact (q (.str "none") [] (by rw [e, e2]; exact .str _)).sub (by walk_at "sb")
    · refine t_catch m_InvalidNumberError_StickyHeadsError fun e0 => ?_
      repeat walk_at "hz"
      refine use_law_kind (v := .non) (by walk_at "mb") (.inr (.inl ⟨rfl, rfl, rfl⟩)) fun w N hk => ?_
      cases hk
      exact (q _ [] (by rw [e]; exact .str _)).sub (by walk_at "sb")
    · refine t_catch m_InvalidObservationsError_StickyHeadsError fun e0 => ?_
      repeat walk_at "hz"
      refine use_law_kind (v := ixV v) (by walk_at "mb") (.inr (.inr ⟨rfl, rfl, dx, rfl, (by walk_at "mb")⟩)) fun w N hk => ?_
      exact (q w N (by rw [e, e2]; exact hk.dt)).sub (by walk_at "sb")
  · obtain rfl := hx1 (by decide)
    repeat walk_at "hz"
    refine t_FV (F_conflict _ (by omega)) ?_
    repeat walk_at "hz"
    rename_i p0
    have mo : ∀ {o : HO}, ∀ p ∈ L, p ∈ (p0, o) :: L := fun p hp => .tail _ hp
    refine use_conflict (hc.mono mo).ty (hd.mono mo) (fun e2 => by obtain ⟨b, xs, ps, g4⟩ := hg1 (by decide) e2; exact ⟨b, xs, ps, g4.mono mo⟩) (fun ⟨e, e2⟩ z N => ?_) (fun e => ?_) fun v ⟨e, e2⟩ dx => ?_
    · repeat walk_at "hz"
      exact (q (.str "none") [] (by rw [e, e2]; exact .str _)).sub (by walk_at "sb")
    · refine t_catch m_InvalidNumberError_StickyHeadsError fun e0 => ?_
      repeat walk_at "hz"
      refine use_law_kind (v := .non) (by walk_at "mb") (.inr (.inl ⟨rfl, rfl, rfl⟩)) fun w N hk => ?_
      cases hk
      exact (q _ [] (by rw [e]; exact .str _)).sub (by walk_at "sb")
    · refine t_catch m_InvalidObservationsError_StickyHeadsError fun e0 => ?_
      repeat walk_at "hz"
      refine use_law_kind (v := ixV v) (by walk_at "mb") (.inr (.inr ⟨rfl, rfl, dx, rfl, (by walk_at "mb")⟩)) fun w N hk => ?_
      exact (q w N (by rw [e, e2]; exact hk.dt)).sub (by walk_at "sb")
  · obtain rfl := hx1 (by decide)
    repeat walk_at "hz"
    refine t_FV (F_count_fitting _ (by omega)) ?_
    repeat walk_at "hz"
    rename_i p0
    have mo : ∀ {o : HO}, ∀ p ∈ L, p ∈ (p0, o) :: L := fun p hp => .tail _ hp
    refine use_count_fitting (hc.mono mo).ty (hd.mono mo) (fun e2 => by obtain ⟨b, xs, ps, g4⟩ := hg1 (by decide) e2; exact ⟨b, xs, ps, g4.mono mo⟩) (fun ⟨e, e2⟩ z N => ?_) (fun e => ?_) fun v ⟨e, e2⟩ dx => ?_
    · repeat walk_at "hz"
      exact (q (.str "none") [] (by rw [e, e2]; exact .str _)).sub (by walk_at "sb")
    · refine t_catch m_InvalidNumberError_StickyHeadsError fun e0 => ?_
      repeat walk_at "hz"
      refine use_law_kind (v := .non) (by walk_at "mb") (.inr (.inl ⟨rfl, rfl, rfl⟩)) fun w N hk => ?_
      cases hk
      exact (q _ [] (by rw [e]; exact .str _)).sub (by walk_at "sb")
    · refine t_catch m_InvalidObservationsError_StickyHeadsError fun e0 => ?_
      repeat walk_at "hz"
      refine use_law_kind (v := ixV v) (by walk_at "mb") (.inr (.inr ⟨rfl, rfl, dx, rfl, (by walk_at "mb")⟩)) fun w N hk => ?_
      exact (q w N (by rw [e, e2]; exact hk.dt)).sub (by walk_at "sb")

theorem errD_bad (out : Bool) (o : Option (Option Nat)) : errD out false o = .str (if out = true then "outline" else "number") := rfl
theorem errD_obs (out : Bool) (v : Option Nat) : errD out true (some v) = .tuple [.str "index", ixD v] := rfl
theorem errD_non (out : Bool) : errD out true none = .str "none" := rfl
theorem obsBad_prs {ps : List (Int × Int)} (hb : Sm ps) (hl : ps.length ≤ 40) : obsBad (prsD ps) = none := by
  unfold prsD
  rw [obsBad_list, if_neg (by rw [List.length_map]; omega), badAt_none (obsD_prs hb)]; rfl
/-- the four answers -/
def quadD (s : String) (v : Option Nat) : PyData := .list [.str (Str.ofString s), .str (Str.ofString s), .tuple [.str "index", ixD v], .str "none"]
theorem quad_ok (s : String) (v : Option Nat) : SeqAt.shaped (quadD s v) = true ∧ PyData.eqv (quadD s v) (quadD s v) = true := by
  have h1 := strOk_of s
  have h2 : PyData.strOk ("index" : Str) = true := strOk_of _
  have h3 : PyData.strOk ("none" : Str) = true := strOk_of _
  cases v with
  | none => exact ⟨by unfold SeqAt.shaped quadD ixD; simp [PyData.canLay0, PyData.canLayAll0, PyData.depth, PyData.depthAll, h1, h2, h3], by unfold quadD ixD; simp [PyData.eqv, PyData.eqvAll]⟩
  | some k => exact ⟨by unfold SeqAt.shaped quadD ixD; simp [PyData.canLay0, PyData.canLayAll0, PyData.depth, PyData.depthAll, h1, h2, h3], by unfold quadD ixD; simp [PyData.eqv, PyData.eqvAll]⟩
def sp_law_right (K : PySem.W.Frag) : Sp := fun vs H Q E => ∃ (z a : Addr) (zs : List Int) (o : HO) (L : Lg), vs = [.ref z, .ref a] ∧ Led H ((a, o) :: L) ∧ (Scr K L z zs) ∧ (Bag 0 o) ∧ Tr (L) (fun H => Q (.bl true) H)
theorem use_law_right {L0  L : Lg} {Q : VK} {E : XK} {z a : Addr} {zs : List Int} {o : HO} (hp0 : Pick (a) (o) L0 L) (hS : Scr K L z zs) (hs : Bag 0 o) (q : Tr (L) (fun H => Q (.bl true) H)) : Tr L0 fun H => sp_law_right K [.ref z, .ref a] H Q E :=
  fun H l => ⟨z, a, zs, o, L, rfl, l.pick hp0, hS, hs, q⟩

theorem ok_law_right (D : Df K mg "_law_right" s_law_right) (B : Blt mg) (k__law_draw : Ok P w K mg base CX0 1 "_law_draw" ["bag", "many"] sp_law_draw) (k__law_sized : Ok P w K mg base CX0 3 "_law_sized" ["script", "bag", "small", "great"] (sp_law_sized K)) (k__law_watched : Ok P w K mg base CX0 2 "_law_watched" ["bag", "depths", "many"] sp_law_watched) (k__law_no_outline : Ok P w K mg base CX0 2 "_law_no_outline" ["bag", "depths"] sp_law_no_outline) (k__law_no_seen : Ok P w K mg base CX0 2 "_law_no_seen" ["bag", "seen"] sp_law_no_seen) (k__law_error : Ok P w K mg base CX0 5 "_law_error" ["door", "one", "two"] sp_law_error) : Ok P w K mg base CX0 6 "_law_right" ["script", "bag"] (sp_law_right K) := by
  obtain ⟨f, fd, hm, F⟩ := D
  refine ⟨f, fd, hm, F.kp, F.binds (fun _ _ _ _ _ _ us hl => match us, hl with | [_, _], _ => rfl), FunOkG F sc_law_right (fun vs H Q E h => ?_) (fun cdv A outer s H vs Q E hr h => ?_), F.lk⟩
  · obtain ⟨_, _, _, _, _, rfl, _⟩ := h; rfl
  obtain ⟨z, a, zs, o, L, rfl, l, hS, hs, q⟩ := h
  refine ⟨_, PSs.nox (pss_cons (ps_set (i := 2) sc_law_right.nd rfl (.inl rfl) (pe_callG k__law_sized (hr.mono (by omega)) pas0 (pa_cons (pv 0) (pa_cons (pv 1) (pa_cons pe_int (pa_cons pe_int pa_nil))))))
      (pss_cons (ps_set (i := 3) sc_law_right.nd rfl (.inl rfl) (pe_callG k__law_watched (hr.mono (by omega)) pas0 (pa_cons (pv 1) (pa_cons (pv 2) (pa_cons (pe_ifExp (pt_cmpR (op_eqD hr.rm.units) (pv 0) (pe_lst pa_nil) (nomark _)) pe_int (pe_ix ix_list (pe_lst (pa_cons pe_int (pa_cons (pe_callG k__law_draw (hr.mono (by omega)) pas0 (pa_cons (pv 1) (pa_cons pe_int pa_nil))) pa_nil))) (pe_callG k__law_draw (hr.mono (by omega)) pas0 (pa_cons (pv 1) (pa_cons pe_int pa_nil))) (fun _ _ => rfl))) pa_nil)))))
      (pss_cons (ps_for PassesOwn.never rfl (pi_range1 rfl B.range_ (pa_cons pe_int pa_nil)) (pg_name (i := 4) sc_law_right.nd rfl (.inl rfl))
        (pss_cons (ps_asg (pe_callG k__law_no_seen (hr.mono (by omega)) pas0 (pa_cons (pv 1) (pa_cons (pv 3) pa_nil))) (pg_tup rfl (pgs_cons (pg_name (i := 5) sc_law_right.nd rfl (.inl rfl)) (pgs_cons (pg_name (i := 6) sc_law_right.nd rfl (.inl rfl)) pgs_nil))))
      (pss_cons (ps_set (i := 7) sc_law_right.nd rfl (.inl rfl) (pe_ix ix_list (pe_lst (pa_cons pe_int (pa_cons pe_int (pa_cons (pe_un un_neg pe_int) (pa_cons pe_bl (pa_cons pe_non (pa_cons pe_str (pa_cons (pe_lst (pa_cons pe_int pa_nil)) (pa_cons (pe_op op_powW pe_int pe_int) pa_nil))))))))) (pe_callG k__law_draw (hr.mono (by omega)) pas0 (pa_cons (pv 1) (pa_cons pe_int pa_nil))) (fun _ _ => rfl)))
      (pss_cons (ps_set (i := 8) sc_law_right.nd rfl (.inl rfl) (pe_callG k__law_no_outline (hr.mono (by omega)) pas0 (pa_cons (pv 1) (pa_cons (pv 2) pa_nil))))
      (pss_cons (ps_set (i := 9) sc_law_right.nd rfl (.inl rfl) (pe_callB (call_reprV hr.gd hr.rm.units) rfl B.repr_ boot_repr (pa_cons (pe_lst (pa_cons (pv 2) (pa_cons (pv 3) (pa_cons (pv 5) (pa_cons (pv 8) pa_nil))))) pa_nil)))
      (pss_cons (ps_for PassesOwn.never rfl (pi_range1 rfl B.range_ (pa_cons pe_int pa_nil)) (pg_name (i := 10) sc_law_right.nd rfl (.inl rfl))
        (pss_cons (ps_asg (pe_ix ix_list (pe_lst (pa_cons (pe_tup (pa_cons (pe_callB (c_min2 rfl) rfl B.min_ boot_min (pa_cons pe_int (pa_cons (pe_callB c_len rfl B.len_ boot_len (pa_cons (pv 2) pa_nil)) pa_nil))) (pa_cons (pv 7) pa_nil))) (pa_cons (pe_tup (pa_cons (pv 2) (pa_cons (pv 8) pa_nil))) pa_nil))) (pe_callTy c_int rfl B.int_ boot_int (pa_cons (pe_cmpR op_eq (pv 10) pe_int (nomark _)) pa_nil)) (fun _ _ => rfl)) (pg_tup rfl (pgs_cons (pg_name (i := 11) sc_law_right.nd rfl (.inl rfl)) (pgs_cons (pg_name (i := 12) sc_law_right.nd rfl (.inl rfl)) pgs_nil))))
      (pss_cons (ps_set (i := 13) sc_law_right.nd rfl (.inl rfl) (pe_ix ix_list (pe_lst (pa_cons pe_str (pa_cons pe_str pa_nil))) (pe_callTy c_int rfl B.int_ boot_int (pa_cons (pe_cmpR op_eq (pv 10) pe_int (nomark _)) pa_nil)) (fun _ _ => rfl)))
      (pss_cons (ps_set (i := 14) sc_law_right.nd rfl (.inl rfl) (pe_lst (pa_cons (pe_callG k__law_error (hr.mono (by omega)) pas0 (pa_cons (pv 10) (pa_cons (pv 12) (pa_cons (pv 3) pa_nil)))) (pa_cons (pe_callG k__law_error (hr.mono (by omega)) pas0 (pa_cons (pv 10) (pa_cons (pv 12) (pa_cons (pv 5) pa_nil)))) (pa_cons (pe_callG k__law_error (hr.mono (by omega)) pas0 (pa_cons (pv 10) (pa_cons (pv 11) (pa_cons (pv 5) pa_nil)))) pa_nil)))))
      (pss_one (ps_if (pt_cmpR (op_neD hr.rm.units) (pe_op op_cat (pv 14) (pe_lst (pa_cons (pe_callG k__law_error (hr.mono (by omega)) pas0 (pa_cons (pv 10) (pa_cons (pv 11) (pa_cons (pv 3) pa_nil)))) pa_nil))) (pe_lst (pa_cons (pv 13) (pa_cons (pv 13) (pa_cons (pe_tup (pa_cons pe_str (pa_cons (pv 6) pa_nil))) (pa_cons pe_str pa_nil))))) (nomark _)) (pss_one (ps_ret pe_bl))
        pss_nil))))))
      (pss_one (ps_if (pt_cmpR op_ne (pe_callB (call_reprV hr.gd hr.rm.units) rfl B.repr_ boot_repr (pa_cons (pe_lst (pa_cons (pv 2) (pa_cons (pv 3) (pa_cons (pv 5) (pa_cons (pv 8) pa_nil))))) pa_nil)) (pv 9) (nomark _)) (pss_one (ps_ret pe_bl))
        pss_nil))))))))
      (pss_one (ps_ret pe_bl))))), ?_⟩
  rw [show L2.start ["script", "bag", "depths", "seen", "turn", "wrong", "at", "number", "bad", "kept", "door", "good", "odd", "due", "found"] [.ref z, .ref a] = [some (.ref z), some (.ref a), none, none, none, none, none, none, none, none, none, none, none, none, none] from rfl]
  refine Tr.of ?_ l
  repeat walk_at "hz"
  refine use_law_sized (by walk_at "pk") hS hs (by omega) (by omega) (by omega) (by omega) fun ns p o1 ho hn hs => ?_
  repeat walk_at "hz"
  refine t_eqSc (zs := []) hS.cons.cons.cons (by walk_at "mb") ?_
  rename_i e0
  refine' t_joinI (fun o => (e0, .lst []) :: (p, .lst (ns.map V.int)) :: (a, o) :: L) (fun i o => 0 ≤ i ∧ i ≤ 40 ∧ Bag 1100 o) (fun join => ?k) ?main
  case k =>
    repeat walk_at "hz"
    refine t_iteD (fun h => ?c1) fun h => ?c2
    case c2 =>
      repeat walk_at "hz"
      refine use_law_draw (by walk_at "pk") hs (by omega) (by omega) (by omega) fun d1 o_d1 d1l d1h hs => ?_
      repeat walk_at "hz"
      repeat walk_at "hz"
      refine use_law_draw (by walk_at "pk") hs (by omega) (by omega) (by omega) fun d2 o_d2 d2l d2h hs => ?_
      repeat walk_at "hz"
      obtain ⟨sz, sz_at, sz_mem, -⟩ := at_mem (ns := [40, d1]) d2l (by simpa using d2h)
      have szb : 0 ≤ sz ∧ sz ≤ 40 := by
        simp only [List.mem_cons, List.not_mem_nil, or_false] at sz_mem
        omega
      refine t_ixL (by walk_at "pk") sz_at ?_
      repeat walk_at "hz"
      exact join sz _ _ ⟨by omega, by omega, hs.le (by omega)⟩ (by walk_at "sb")
    case c1 =>
      repeat walk_at "hz"
      exact join 2 _ _ ⟨by omega, by omega, hs.le (by omega)⟩ (by walk_at "sb")
  case main =>
    intro i o ⟨i0, i1, hs⟩
    repeat walk_at "hz"
    refine use_law_watched (L := (e0, .lst []) :: (p, .lst (ns.map V.int)) :: L) (by walk_at "pk") (by walk_at "mb") ho hs (by omega) (by omega) (by omega) fun b xs ps N o hx hl hb hs => ?_
    repeat walk_at "hz"
    have hnl := ho.len
    have hxl := hx.len
    have sm : Sm ps := fun p hp => by have := hb p hp; omega
    have l : ps.length ≤ 40 := by omega
    have ob := obsBad_prs sm l
    refine t_gen (α := Lg) (fun L1 => (p, .lst (ns.map V.int)) :: (b, .lst xs) :: (a, o) :: L1) (fun L1 => (Tr L1 fun H => Q (.bl true) H) ∧ Prs L1 xs ps) _ ⟨?_, ?_⟩ (by walk_at "sb") ?_
    · exact q.sub (by walk_at "sb")
    · exact hx.mono fun q h => by simp [h]
    clear hx q hS
    rintro L1 ⟨q, hx⟩
    refine t_forK wk_range (fun t ((o, j4, j5, j6, j7, j8, j9, j10, j11, j12, j13, j14) : HO × Option V × Option V × Option V × Option V × Option V × Option V × Option V × Option V × Option V × Option V × Option V) => [some (.ref z), some (.ref a), some (.ref p), some (.ref b), j4, j5, j6, j7, j8, j9, j10, j11, j12, j13, j14]) (fun t ((o, j4, j5, j6, j7, j8, j9, j10, j11, j12, j13, j14) : HO × Option V × Option V × Option V × Option V × Option V × Option V × Option V × Option V × Option V × Option V × Option V) => (p, .lst (ns.map V.int)) :: (b, .lst xs) :: (a, o) :: L1) (fun t ((o, j4, j5, j6, j7, j8, j9, j10, j11, j12, j13, j14) : HO × Option V × Option V × Option V × Option V × Option V × Option V × Option V × Option V × Option V × Option V × Option V) => Bag (1600 + 600 * t) o) ⟨(o, _, _, _, _, _, _, _, _, _, _, _), (hs.le (by omega)), rfl, (by walk_at "sb")⟩ (fun _ _ _ => trivial) ?_ ?_
    · clear hs
      rintro t ⟨o, j4, j5, j6, j7, j8, j9, j10, j11, j12, j13, j14⟩ v L' ht hs ⟨rfl, rfl⟩
      try dsimp only at hs ⊢
      simp only [List.nil_append, List.cons_append]
      repeat walk_at "hz"
      refine use_law_no_seen (xs := xs) (ps := ps) (by walk_at "pk") (by walk_at "mb") (hx.mono fun q h => by simp [h]) sm l hs (by omega) fun T wv dw v N2 o2 hw wsz wbad wT hs => ?_
      obtain ⟨RT, pT⟩ := Pick.of_mem (show (T, HO.tup [wv, ixV v]) ∈ (a, o2) :: (N2 ++ ((p, HO.lst (ns.map V.int)) :: (b, HO.lst xs) :: L1)) from .tail _ (List.mem_append_left _ wT))
      repeat walk_at "hz"
      refine t_rI (pow_ok 5 (by decide) (by decide) (by decide) (by decide)) ?_
      rw [show (10 : Int) ^ (30 : Int).toNat = 1000000000000000000000000000000 by decide]
      repeat walk_at "hz"
      refine use_law_draw (by walk_at "pk") hs (by omega) (by omega) (by omega) fun e1 o_e1 e1l e1h hs => ?_
      repeat walk_at "hz"
      rename_i nl nz
      obtain ⟨nv, hnv, nm⟩ := at_memV (xs := [V.int 0, .int 61, .int (-1), .bl true, .non, .str "1", .ref nl, .int 1000000000000000000000000000000]) e1l (by simpa using e1h)
      refine t_ixL (by walk_at "pk") hnv ?_
      repeat walk_at "hz"
      refine use_law_no_outline (by walk_at "pk") (by walk_at "mb") ho hs (by omega) fun bv db N3 o3 hbv bsz bout hs => ?_
      repeat walk_at "hz"
      rename_i kp
      have nok : numOk nv = false ∧ ∀ M : Lg, (nl, HO.lst [.int 1]) ∈ M → ∃ nd, Dv M nv nd := by
        simp only [List.mem_cons, List.not_mem_nil, or_false] at nm
        rcases nm with e | e | e | e | e | e | e | e <;> rw [e]
        · exact ⟨by decide, fun M m => ⟨_, .int _⟩⟩
        · exact ⟨by decide, fun M m => ⟨_, .int _⟩⟩
        · exact ⟨by decide, fun M m => ⟨_, .int _⟩⟩
        · exact ⟨rfl, fun M m => ⟨_, .bl _⟩⟩
        · exact ⟨rfl, fun M m => ⟨_, .non⟩⟩
        · exact ⟨rfl, fun M m => ⟨_, .str _⟩⟩
        · exact ⟨rfl, fun M m => ⟨_, .lst m (DvAll.ints [1])⟩⟩
        · exact ⟨by decide, fun M m => ⟨_, .int _⟩⟩
      refine t_gen (α := Lg) (fun M => M) (fun M => ((kp, HO.lst [.ref p, .ref b, wv, bv]) ∈ M ∧ (p, HO.lst (ns.map V.int)) ∈ M ∧ (b, HO.lst xs) ∈ M) ∧ Prs M xs ps ∧ Dv M wv dw ∧ Dv M bv db ∧ (∃ nd, Dv M nv nd) ∧ Sub M ((p, .lst (ns.map V.int)) :: (b, .lst xs) :: (a, o3) :: L1)) _ ⟨⟨(by walk_at "mb"), (by walk_at "mb"), (by walk_at "mb")⟩, ?_, ?_, ?_, nok.2 _ (by walk_at "mb"), (by walk_at "sb")⟩ .refl ?_
      · exact hx.mono fun q h => by simp [h]
      · exact hw.mono fun q h => by
          simp only [List.mem_append, List.mem_cons] at h ⊢
          rcases h with h | h | h | h <;> simp [h]
      · exact hbv.mono fun q h => by walk_at "mb"
      clear hw hbv wT pT
      rintro M ⟨⟨mk, mp, mb⟩, hx, hw, hbv, ⟨nd, hnd⟩, sub⟩
      have kd : ∀ {M2 : Lg} {r : Addr}, (r, HO.lst [.ref p, .ref b, wv, bv]) ∈ M2 → (∀ q ∈ M, q ∈ M2) → Dv M2 (.ref r) (.list [.list (ns.map PyData.int), prsD ps, dw, db]) := fun m s =>
        .lst m (.cons (.ints (s _ mp)) (.cons ((hx.mono s).dt (s _ mb)).dv (.cons (hw.mono s) (.cons (hbv.mono s) .nil))))
      have ks : Sz 9000000 6 (.list [.list (ns.map PyData.int), prsD ps, dw, db]) := (Sz.list (n := 2000000) (k := 5) 4 (fun d hd => by
        simp only [List.mem_cons, List.not_mem_nil, or_false] at hd
        rcases hd with rfl | rfl | rfl | rfl
        · exact (Sz.ints 30 200 (by decide) (by decide) (sz_depths ho) hnl.2).le (by decide) (by decide)
        · exact (Sz.prs 40 sm l).le (by decide) (by decide)
        · exact wsz
        · exact bsz) (by simp)).le (by decide) (by decide)
      refine t_reprV (kd mk fun _ h => h) _ _ ks (by decide) (by decide) ?_
      obtain ⟨kept, hkept⟩ : ∃ k, k = PyData.shown (.list [.list (ns.map PyData.int), prsD ps, dw, db]) := ⟨_, rfl⟩
      rw [← hkept]
      repeat walk_at "hz"
      refine t_forK wk_range (fun u ((t010, t011, t012, t013, t014) : Option V × Option V × Option V × Option V × Option V) => [some (.ref z), some (.ref a), some (.ref p), some (.ref b), some (.int (0 + t)), some (wv), some (ixV v), some (nv), some (bv), some (.str kept), t010, t011, t012, t013, t014]) (fun u ((t010, t011, t012, t013, t014) : Option V × Option V × Option V × Option V × Option V) => M) (fun u ((t010, t011, t012, t013, t014) : Option V × Option V × Option V × Option V × Option V) => True) ⟨(_, _, _, _, _), trivial, rfl, (by walk_at "sb")⟩ (fun _ _ _ => trivial) ?_ ?_
      · rintro u ⟨t010, t011, t012, t013, t014⟩ v L' hu - ⟨rfl, rfl⟩
        try dsimp only at  ⊢
        simp only [List.nil_append, List.cons_append]
        obtain ⟨Rp, pp⟩ := Pick.of_mem mp
        repeat walk_at "hz"
        have og : ObsGood M (.ref b) b xs ps := ⟨rfl, mb, hx, sm, l, fun q hq => by have := hb q hq; omega⟩
        have hseen : Dv M (.ref b) (prsD ps) := (hx.dt mb).dv
        have gok : numOk (.int (min 60 (ns.length : Int))) = true := by rw [numOk_int, decide_eq_true (show 1 ≤ min 60 (ns.length : Int) by omega), decide_eq_true (show min 60 (ns.length : Int) ≤ 60 by omega)]; rfl
        by_cases c : (0 : Int) + (u : Int) = 0
        · rw [c]
          repeat walk_at "hz"
          refine use_law_error (e1 := false) (c := db) (d := prsD ps) (by omega) (by omega) (hseen.mono fun q h => by walk_at "mb") (hbv.mono fun q h => by walk_at "mb") (fun _ => bout.symm) (fun h => absurd rfl h) (fun _ e => nomatch e) (fun h => absurd rfl h) fun w1 N1 r1 => ?_
          repeat walk_at "hz"
          refine use_law_error (e1 := false) (c := db) (d := dw) (by omega) (by omega) (hw.mono fun q h => by walk_at "mb") (hbv.mono fun q h => by walk_at "mb") (fun _ => bout.symm) (fun h => absurd rfl h) (fun _ e => nomatch e) (fun h => absurd rfl h) fun w2 N2 r2 => ?_
          repeat walk_at "hz"
          refine use_law_error (e1 := true) (c := .list (ns.map PyData.int)) (d := dw) (by omega) (by omega) (hw.mono fun q h => by walk_at "mb") (.ints (by walk_at "mb")) (fun _ => by rw [outD_ints]; exact ho.symm) (fun h => absurd rfl h) (fun _ _ e => by rw [wbad] at e; cases e) (fun h => absurd rfl h) fun w3 N3 r3 => ?_
          repeat walk_at "hz"
          refine use_law_error (e1 := true) (c := .list (ns.map PyData.int)) (d := prsD ps) (by omega) (by omega) (hseen.mono fun q h => by walk_at "mb") (.ints (by walk_at "mb")) (fun _ => by rw [outD_ints]; exact ho.symm) (fun h => absurd rfl h) (fun _ _ e => ⟨p, ns, b, xs, ps, rfl, by walk_at "mb", ho, og.mono fun q h => by walk_at "mb"⟩) (fun h => absurd rfl h) fun w4 N4 r4 => ?_
          repeat walk_at "hz"
          rename_i f1 f2 f3 f4 f5
          rw [wbad] at r3
          rw [ob] at r4
          change Dt N1 w1 (.str "outline") at r1
          change Dt N2 w2 (.str "outline") at r2
          change Dt N3 w3 (.tuple [.str "index", ixD v]) at r3
          change Dt N4 w4 (.str "none") at r4
          obtain ⟨s1, s2⟩ := quad_ok "outline" v
          refine t_neD (d := quadD "outline" v) (e := quadD "outline" v) (Dt.lst (a := f3) (by walk_at "mb") (.cons (r1.mono fun q h => by simp [h]) (.cons (r2.mono fun q h => by simp [h]) (.cons (r3.mono fun q h => by simp [h]) (.cons (r4.mono fun q h => by simp [h]) .nil))))).dpl
            (Dt.lst (a := f5) (by walk_at "mb") (.cons (.str _) (.cons (.str _) (.cons (.tup (by walk_at "mb") (.cons (.str _) (.cons (ix_dt v) .nil))) (.cons (.str _) .nil))))).dpl s1 s1 ?_
          rw [s2]
          repeat walk_at "hz"
          refine t_pst (_, _, _, _, _) trivial rfl (by walk_at "sb")
        · have ei : (if decide ((0 : Int) + (u : Int) = 0) = true then (1 : Int) else 0) = 0 := by rw [if_neg]; simpa using c
          rw [ei]
          repeat walk_at "hz"
          rw [ei]
          repeat walk_at "hz"
          refine use_law_error (e1 := false) (c := nd) (d := prsD ps) (by omega) (by omega) (hseen.mono fun q h => by walk_at "mb") (hnd.mono fun q h => by walk_at "mb") (fun h => absurd h c) (fun _ => nok.1.symm) (fun h => absurd h c) (fun _ _ => ⟨b, xs, ps, og.mono fun q h => by walk_at "mb"⟩) fun w1 N1 r1 => ?_
          repeat walk_at "hz"
          refine use_law_error (e1 := false) (c := nd) (d := dw) (by omega) (by omega) (hw.mono fun q h => by walk_at "mb") (hnd.mono fun q h => by walk_at "mb") (fun h => absurd h c) (fun _ => nok.1.symm) (fun h => absurd h c) (fun _ e => by rw [wbad] at e; cases e) fun w2 N2 r2 => ?_
          repeat walk_at "hz"
          refine use_law_error (e1 := true) (c := .int (min 60 (ns.length : Int))) (d := dw) (by omega) (by omega) (hw.mono fun q h => by walk_at "mb") (.int _) (fun h => absurd h c) (fun _ => gok.symm) (fun h => absurd h c) (fun _ e => by rw [wbad] at e; cases e) fun w3 N3 r3 => ?_
          repeat walk_at "hz"
          refine use_law_error (e1 := true) (c := .int (min 60 (ns.length : Int))) (d := prsD ps) (by omega) (by omega) (hseen.mono fun q h => by walk_at "mb") (.int _) (fun h => absurd h c) (fun _ => gok.symm) (fun h => absurd h c) (fun _ _ => ⟨b, xs, ps, og.mono fun q h => by walk_at "mb"⟩) fun w4 N4 r4 => ?_
          repeat walk_at "hz"
          rename_i f1 f2 f3 f4 f5
          rw [wbad] at r3
          rw [ob] at r4
          rw [decide_eq_false c] at r1 r2 r3 r4
          change Dt N1 w1 (.str "number") at r1
          change Dt N2 w2 (.str "number") at r2
          change Dt N3 w3 (.tuple [.str "index", ixD v]) at r3
          change Dt N4 w4 (.str "none") at r4
          obtain ⟨s1, s2⟩ := quad_ok "number" v
          refine t_neD (d := quadD "number" v) (e := quadD "number" v) (Dt.lst (a := f3) (by walk_at "mb") (.cons (r1.mono fun q h => by simp [h]) (.cons (r2.mono fun q h => by simp [h]) (.cons (r3.mono fun q h => by simp [h]) (.cons (r4.mono fun q h => by simp [h]) .nil))))).dpl
            (Dt.lst (a := f5) (by walk_at "mb") (.cons (.str _) (.cons (.str _) (.cons (.tup (by walk_at "mb") (.cons (.str _) (.cons (ix_dt v) .nil))) (.cons (.str _) .nil))))).dpl s1 s1 ?_
          rw [s2]
          repeat walk_at "hz"
          refine t_pst (_, _, _, _, _) trivial rfl (by walk_at "sb")
      · rintro ⟨t010, t011, t012, t013, t014⟩ -
        try dsimp only at  ⊢
        repeat walk_at "hz"
        rename_i kp2
        refine t_reprV (kd (r := kp2) (by walk_at "mb") fun q h => by walk_at "mb") _ _ ks (by decide) (by decide) ?_
        rw [← hkept]
        repeat walk_at "hz"
        refine Tr.sub ?_ (Sub.drop sub)
        refine t_pst (o3, _, _, _, _, _, _, _, _, _, _, _) (hs.le (by omega)) rfl (by walk_at "sb")
    · rintro ⟨o, j4, j5, j6, j7, j8, j9, j10, j11, j12, j13, j14⟩ hs
      try dsimp only at hs ⊢
      repeat walk_at "hz"
      exact q.sub (by walk_at "sb")

def sp_law (K : PySem.W.Frag) : Sp := fun vs H Q E => ∃ (a : Addr) (ns : List Int) (L : Lg), vs = [.ref a] ∧ Led H (L) ∧ (Scr K L a ns) ∧ (ns.length ≤ 63) ∧ Tr (L) (fun H => Q (.bl true) H)
theorem use_law {L : Lg} {Q : VK} {E : XK} {a : Addr} {ns : List Int} (hS : Scr K L a ns) (hl : ns.length ≤ 63) (q : Tr (L) (fun H => Q (.bl true) H)) : Tr L fun H => sp_law K [.ref a] H Q E :=
  fun H l => ⟨a, ns, L, rfl, l, hS, hl, q⟩

theorem ok_law (D : Df K mg "law" s_law) (B : Blt mg) (k__law_bag : Ok P w K mg base CX0 1 "_law_bag" ["cell", "turn"] sp_law_bag) (k__law_cells : Ok P w K mg base CX0 1 "_law_cells" ["script"] (sp_law_cells K)) (k__law_right : Ok P w K mg base CX0 6 "_law_right" ["script", "bag"] (sp_law_right K)) : Ok P w K mg base CX0 7 "law" ["script"] (sp_law K) := by
  obtain ⟨f, fd, hm, F⟩ := D
  refine ⟨f, fd, hm, F.kp, F.binds (fun _ _ _ _ _ _ us hl => match us, hl with | [_], _ => rfl), FunOkG F sc_law (fun vs H Q E h => ?_) (fun cdv A outer s H vs Q E hr h => ?_), F.lk⟩
  · obtain ⟨_, _, _, rfl, _⟩ := h; rfl
  obtain ⟨a, ns, L, rfl, l, hS, hl, q⟩ := h
  refine ⟨_, PSs.nox (pss_cons (ps_for PassesOwn.never rfl (pi_enum (by rfl) B.enumerate_ (pa_cons (pe_callG k__law_cells (hr.mono (by omega)) pas0 (pa_cons (pv 0) pa_nil)) pa_nil)) (pg_tup rfl (pgs_cons (pg_name (i := 1) sc_law.nd rfl (.inl rfl)) (pgs_cons (pg_name (i := 2) sc_law.nd rfl (.inl rfl)) pgs_nil)))
        (pss_one (ps_if (pt_not (pt_val (pe_callG k__law_right (hr.mono (by omega)) pas0 (pa_cons (pv 0) (pa_cons (pe_callG k__law_bag (hr.mono (by omega)) pas0 (pa_cons (pv 2) (pa_cons (pv 1) pa_nil))) pa_nil))))) (pss_one (ps_ret pe_bl))
        pss_nil)))
      (pss_one (ps_ret pe_bl))), ?_⟩
  rw [show L2.start ["script", "k", "cell"] [.ref a] = [some (.ref a), none, none] from rfl]
  refine Tr.of ?_ l
  repeat walk_at "hz"
  refine use_law_cells hS hl fun p cs hc => ?_
  repeat walk_at "hz"
  refine t_forK (wk_enum (xs := cs.map V.int)) (fun t ((j1, j2) : Option V × Option V) => [some (.ref a), j1, j2]) (fun t ((j1, j2) : Option V × Option V) => (p, .lst (cs.map V.int)) :: L) (fun t ((j1, j2) : Option V × Option V) => True) ⟨(_, _), trivial, rfl, (by walk_at "sb")⟩ (fun _ _ _ => ⟨_, (by walk_at "pk")⟩) ?_ ?_
  · rintro t ⟨j1, j2⟩ v L' ht - ⟨T, x, rfl, hx, rfl⟩
    try dsimp only at  ⊢
    simp only [List.nil_append, List.cons_append]
    obtain ⟨cell, hc1, rfl⟩ := map_get hx
    rw [List.length_map] at ht
    repeat walk_at "hz"
    refine use_law_bag (by omega) (by omega) fun p2 o hs => ?_
    repeat walk_at "hz"
    refine use_law_right (by walk_at "pk") hS.cons.cons hs ?_
    repeat walk_at "hz"
    refine t_pst (_, _) trivial rfl (by walk_at "sb")
  · rintro ⟨j1, j2⟩ -
    try dsimp only at  ⊢
    repeat walk_at "hz"
    exact q.sub (by walk_at "sb")
theorem law_ok (B : Blt mg) (g_MAX_LINES : GV mg "MAX_LINES" (.int 200)) (g_MOST_OBSERVATIONS : GV mg "MOST_OBSERVATIONS" (.int 40)) (g_MOST_LINES : GV mg "MOST_LINES" (.int 60)) (d__law_bag : Df K mg "_law_bag" s_law_bag) (d__law_cells : Df K mg "_law_cells" s_law_cells) (d__law_draw : Df K mg "_law_draw" s_law_draw) (d__law_rising : Df K mg "_law_rising" s_law_rising) (d__law_sized : Df K mg "_law_sized" s_law_sized) (d__law_first_line : Df K mg "_law_first_line" s_law_first_line) (d__law_watched : Df K mg "_law_watched" s_law_watched) (d__law_no_outline : Df K mg "_law_no_outline" s_law_no_outline) (d__law_no_seen : Df K mg "_law_no_seen" s_law_no_seen) (d_is_integer : Df K mg "is_integer" s_is_integer) (d_is_outline : Df K mg "is_outline" s_is_outline) (d_check_outline : Df K mg "check_outline" s_check_outline) (d_stops_of : Df K mg "stops_of" s_stops_of) (d_is_observation : Df K mg "is_observation" s_is_observation) (d_check_observations : Df K mg "check_observations" s_check_observations) (d_fits : Df K mg "fits" s_fits) (d_check_lines : Df K mg "check_lines" s_check_lines) (d_limits_of : Df K mg "limits_of" s_limits_of) (d_bounds_of : Df K mg "bounds_of" s_bounds_of) (d_depth_bounds : Df K mg "depth_bounds" s_depth_bounds) (d_conflict : Df K mg "conflict" s_conflict) (d_sums_on : Df K mg "sums_on" s_sums_on) (d_count_fitting : Df K mg "count_fitting" s_count_fitting) (d__law_kind : Df K mg "_law_kind" s_law_kind) (d__law_error : Df K mg "_law_error" s_law_error) (d__law_right : Df K mg "_law_right" s_law_right) (d_law : Df K mg "law" s_law) (xc : ∃ C_EmptyHistoryError C_EmptyOutlineError C_EndError C_HiddenLineError C_InvalidDepthError C_InvalidDocumentError C_InvalidFoldsError C_InvalidHeightError C_InvalidLineError C_InvalidNumberError C_InvalidObservationsError C_InvalidOutlineError C_InvalidReadingError C_InvalidScrollError C_InvalidTextError C_InvalidTitleError C_StickyHeadsError C_TooDeepError C_TooManyLinesError : Addr, (ErrI P w K mg base "InvalidObservationsError" "index" C_InvalidObservationsError) ∧ (Sbj K C_InvalidObservationsError) ∧ (PySem.W.findIn K (.ref C_InvalidObservationsError) "index" = some none) ∧ (GV mg "EmptyHistoryError" (.ref C_EmptyHistoryError)) ∧ (GV mg "EndError" (.ref C_EndError)) ∧ (GV mg "HiddenLineError" (.ref C_HiddenLineError)) ∧ (GV mg "InvalidDepthError" (.ref C_InvalidDepthError)) ∧ (GV mg "InvalidDocumentError" (.ref C_InvalidDocumentError)) ∧ (GV mg "InvalidFoldsError" (.ref C_InvalidFoldsError)) ∧ (GV mg "InvalidHeightError" (.ref C_InvalidHeightError)) ∧ (GV mg "InvalidLineError" (.ref C_InvalidLineError)) ∧ (GV mg "InvalidReadingError" (.ref C_InvalidReadingError)) ∧ (GV mg "InvalidScrollError" (.ref C_InvalidScrollError)) ∧ (GV mg "InvalidTextError" (.ref C_InvalidTextError)) ∧ (GV mg "InvalidTitleError" (.ref C_InvalidTitleError)) ∧ (GV mg "TooDeepError" (.ref C_TooDeepError)) ∧ (GV mg "TooManyLinesError" (.ref C_TooManyLinesError)) ∧ (GV mg "EmptyOutlineError" (.ref C_EmptyOutlineError)) ∧ (GV mg "InvalidOutlineError" (.ref C_InvalidOutlineError)) ∧ (GV mg "InvalidNumberError" (.ref C_InvalidNumberError)) ∧ (GV mg "InvalidObservationsError" (.ref C_InvalidObservationsError)) ∧ (mg "ValueError" = none) ∧ (Sbj K C_InvalidOutlineError) ∧ (PySem.W.kitOne K (.ref C_InvalidOutlineError) (.ref C_EmptyHistoryError) = some false) ∧ (PySem.W.kitOne K (.ref C_InvalidOutlineError) (.ref C_EndError) = some false) ∧ (PySem.W.kitOne K (.ref C_InvalidOutlineError) (.ref C_HiddenLineError) = some false) ∧ (PySem.W.kitOne K (.ref C_InvalidOutlineError) (.ref C_InvalidDepthError) = some false) ∧ (PySem.W.kitOne K (.ref C_InvalidOutlineError) (.ref C_InvalidDocumentError) = some false) ∧ (PySem.W.kitOne K (.ref C_InvalidOutlineError) (.ref C_InvalidFoldsError) = some false) ∧ (PySem.W.kitOne K (.ref C_InvalidOutlineError) (.ref C_InvalidHeightError) = some false) ∧ (PySem.W.kitOne K (.ref C_InvalidOutlineError) (.ref C_InvalidLineError) = some false) ∧ (PySem.W.kitOne K (.ref C_InvalidOutlineError) (.ref C_InvalidReadingError) = some false) ∧ (PySem.W.kitOne K (.ref C_InvalidOutlineError) (.ref C_InvalidScrollError) = some false) ∧ (PySem.W.kitOne K (.ref C_InvalidOutlineError) (.ref C_InvalidTextError) = some false) ∧ (PySem.W.kitOne K (.ref C_InvalidOutlineError) (.ref C_InvalidTitleError) = some false) ∧ (PySem.W.kitOne K (.ref C_InvalidOutlineError) (.ref C_TooDeepError) = some false) ∧ (PySem.W.kitOne K (.ref C_InvalidOutlineError) (.ref C_TooManyLinesError) = some false) ∧ (PySem.W.kitOne K (.ref C_InvalidOutlineError) (.ref C_EmptyOutlineError) = some false) ∧ (PySem.W.kitOne K (.ref C_InvalidOutlineError) (.ref C_InvalidOutlineError) = some true) ∧ (PySem.W.kitOne K (.ref C_InvalidOutlineError) (.ref C_InvalidNumberError) = some false) ∧ (PySem.W.kitOne K (.ref C_InvalidOutlineError) (.ref C_InvalidObservationsError) = some false) ∧ (PySem.W.kitOne K (.ref C_InvalidOutlineError) (.type "ValueError") = some true) ∧ (Sbj K C_InvalidNumberError) ∧ (PySem.W.kitOne K (.ref C_InvalidNumberError) (.ref C_EmptyHistoryError) = some false) ∧ (PySem.W.kitOne K (.ref C_InvalidNumberError) (.ref C_EndError) = some false) ∧ (PySem.W.kitOne K (.ref C_InvalidNumberError) (.ref C_HiddenLineError) = some false) ∧ (PySem.W.kitOne K (.ref C_InvalidNumberError) (.ref C_InvalidDepthError) = some false) ∧ (PySem.W.kitOne K (.ref C_InvalidNumberError) (.ref C_InvalidDocumentError) = some false) ∧ (PySem.W.kitOne K (.ref C_InvalidNumberError) (.ref C_InvalidFoldsError) = some false) ∧ (PySem.W.kitOne K (.ref C_InvalidNumberError) (.ref C_InvalidHeightError) = some false) ∧ (PySem.W.kitOne K (.ref C_InvalidNumberError) (.ref C_InvalidLineError) = some false) ∧ (PySem.W.kitOne K (.ref C_InvalidNumberError) (.ref C_InvalidReadingError) = some false) ∧ (PySem.W.kitOne K (.ref C_InvalidNumberError) (.ref C_InvalidScrollError) = some false) ∧ (PySem.W.kitOne K (.ref C_InvalidNumberError) (.ref C_InvalidTextError) = some false) ∧ (PySem.W.kitOne K (.ref C_InvalidNumberError) (.ref C_InvalidTitleError) = some false) ∧ (PySem.W.kitOne K (.ref C_InvalidNumberError) (.ref C_TooDeepError) = some false) ∧ (PySem.W.kitOne K (.ref C_InvalidNumberError) (.ref C_TooManyLinesError) = some false) ∧ (PySem.W.kitOne K (.ref C_InvalidNumberError) (.ref C_EmptyOutlineError) = some false) ∧ (PySem.W.kitOne K (.ref C_InvalidNumberError) (.ref C_InvalidOutlineError) = some false) ∧ (PySem.W.kitOne K (.ref C_InvalidNumberError) (.ref C_InvalidNumberError) = some true) ∧ (PySem.W.kitOne K (.ref C_InvalidNumberError) (.ref C_InvalidObservationsError) = some false) ∧ (PySem.W.kitOne K (.ref C_InvalidNumberError) (.type "ValueError") = some true) ∧ (PySem.W.kitOne K (.ref C_InvalidObservationsError) (.ref C_EmptyHistoryError) = some false) ∧ (PySem.W.kitOne K (.ref C_InvalidObservationsError) (.ref C_EndError) = some false) ∧ (PySem.W.kitOne K (.ref C_InvalidObservationsError) (.ref C_HiddenLineError) = some false) ∧ (PySem.W.kitOne K (.ref C_InvalidObservationsError) (.ref C_InvalidDepthError) = some false) ∧ (PySem.W.kitOne K (.ref C_InvalidObservationsError) (.ref C_InvalidDocumentError) = some false) ∧ (PySem.W.kitOne K (.ref C_InvalidObservationsError) (.ref C_InvalidFoldsError) = some false) ∧ (PySem.W.kitOne K (.ref C_InvalidObservationsError) (.ref C_InvalidHeightError) = some false) ∧ (PySem.W.kitOne K (.ref C_InvalidObservationsError) (.ref C_InvalidLineError) = some false) ∧ (PySem.W.kitOne K (.ref C_InvalidObservationsError) (.ref C_InvalidReadingError) = some false) ∧ (PySem.W.kitOne K (.ref C_InvalidObservationsError) (.ref C_InvalidScrollError) = some false) ∧ (PySem.W.kitOne K (.ref C_InvalidObservationsError) (.ref C_InvalidTextError) = some false) ∧ (PySem.W.kitOne K (.ref C_InvalidObservationsError) (.ref C_InvalidTitleError) = some false) ∧ (PySem.W.kitOne K (.ref C_InvalidObservationsError) (.ref C_TooDeepError) = some false) ∧ (PySem.W.kitOne K (.ref C_InvalidObservationsError) (.ref C_TooManyLinesError) = some false) ∧ (PySem.W.kitOne K (.ref C_InvalidObservationsError) (.ref C_EmptyOutlineError) = some false) ∧ (PySem.W.kitOne K (.ref C_InvalidObservationsError) (.ref C_InvalidOutlineError) = some false) ∧ (PySem.W.kitOne K (.ref C_InvalidObservationsError) (.ref C_InvalidNumberError) = some false) ∧ (PySem.W.kitOne K (.ref C_InvalidObservationsError) (.ref C_InvalidObservationsError) = some true) ∧ (PySem.W.kitOne K (.ref C_InvalidObservationsError) (.type "ValueError") = some true) ∧ (GV mg "StickyHeadsError" (.ref C_StickyHeadsError)) ∧ (PySem.W.exmOne K (.ref C_InvalidOutlineError) (.ref C_StickyHeadsError) = some true) ∧ (PySem.W.exmOne K (.ref C_InvalidNumberError) (.ref C_StickyHeadsError) = some true) ∧ (PySem.W.exmOne K (.ref C_InvalidObservationsError) (.ref C_StickyHeadsError) = some true) ∧ (ExcC K mg "InvalidOutlineError" C_InvalidOutlineError) ∧ (ExcC K mg "InvalidNumberError" C_InvalidNumberError) ∧ True) :
    Ok P w K mg base CX0 7 "law" ["script"] (sp_law K) := by
  obtain ⟨C_EmptyHistoryError, C_EmptyOutlineError, C_EndError, C_HiddenLineError, C_InvalidDepthError, C_InvalidDocumentError, C_InvalidFoldsError, C_InvalidHeightError, C_InvalidLineError, C_InvalidNumberError, C_InvalidObservationsError, C_InvalidOutlineError, C_InvalidReadingError, C_InvalidScrollError, C_InvalidTextError, C_InvalidTitleError, C_StickyHeadsError, C_TooDeepError, C_TooManyLinesError, X_InvalidObservationsError, T_InvalidObservationsError, nf_InvalidObservationsError, g_EmptyHistoryError, g_EndError, g_HiddenLineError, g_InvalidDepthError, g_InvalidDocumentError, g_InvalidFoldsError, g_InvalidHeightError, g_InvalidLineError, g_InvalidReadingError, g_InvalidScrollError, g_InvalidTextError, g_InvalidTitleError, g_TooDeepError, g_TooManyLinesError, g_EmptyOutlineError, g_InvalidOutlineError, g_InvalidNumberError, g_InvalidObservationsError, n_ValueError, T_InvalidOutlineError, i_InvalidOutlineError_EmptyHistoryError, i_InvalidOutlineError_EndError, i_InvalidOutlineError_HiddenLineError, i_InvalidOutlineError_InvalidDepthError, i_InvalidOutlineError_InvalidDocumentError, i_InvalidOutlineError_InvalidFoldsError, i_InvalidOutlineError_InvalidHeightError, i_InvalidOutlineError_InvalidLineError, i_InvalidOutlineError_InvalidReadingError, i_InvalidOutlineError_InvalidScrollError, i_InvalidOutlineError_InvalidTextError, i_InvalidOutlineError_InvalidTitleError, i_InvalidOutlineError_TooDeepError, i_InvalidOutlineError_TooManyLinesError, i_InvalidOutlineError_EmptyOutlineError, i_InvalidOutlineError_InvalidOutlineError, i_InvalidOutlineError_InvalidNumberError, i_InvalidOutlineError_InvalidObservationsError, iv_InvalidOutlineError, T_InvalidNumberError, i_InvalidNumberError_EmptyHistoryError, i_InvalidNumberError_EndError, i_InvalidNumberError_HiddenLineError, i_InvalidNumberError_InvalidDepthError, i_InvalidNumberError_InvalidDocumentError, i_InvalidNumberError_InvalidFoldsError, i_InvalidNumberError_InvalidHeightError, i_InvalidNumberError_InvalidLineError, i_InvalidNumberError_InvalidReadingError, i_InvalidNumberError_InvalidScrollError, i_InvalidNumberError_InvalidTextError, i_InvalidNumberError_InvalidTitleError, i_InvalidNumberError_TooDeepError, i_InvalidNumberError_TooManyLinesError, i_InvalidNumberError_EmptyOutlineError, i_InvalidNumberError_InvalidOutlineError, i_InvalidNumberError_InvalidNumberError, i_InvalidNumberError_InvalidObservationsError, iv_InvalidNumberError, i_InvalidObservationsError_EmptyHistoryError, i_InvalidObservationsError_EndError, i_InvalidObservationsError_HiddenLineError, i_InvalidObservationsError_InvalidDepthError, i_InvalidObservationsError_InvalidDocumentError, i_InvalidObservationsError_InvalidFoldsError, i_InvalidObservationsError_InvalidHeightError, i_InvalidObservationsError_InvalidLineError, i_InvalidObservationsError_InvalidReadingError, i_InvalidObservationsError_InvalidScrollError, i_InvalidObservationsError_InvalidTextError, i_InvalidObservationsError_InvalidTitleError, i_InvalidObservationsError_TooDeepError, i_InvalidObservationsError_TooManyLinesError, i_InvalidObservationsError_EmptyOutlineError, i_InvalidObservationsError_InvalidOutlineError, i_InvalidObservationsError_InvalidNumberError, i_InvalidObservationsError_InvalidObservationsError, iv_InvalidObservationsError, g_StickyHeadsError, m_InvalidOutlineError_StickyHeadsError, m_InvalidNumberError_StickyHeadsError, m_InvalidObservationsError_StickyHeadsError, X_InvalidOutlineError, X_InvalidNumberError, -⟩ := xc
  have k__law_bag := ok_law_bag (P := P) (w := w) (base := base) d__law_bag B
  have k__law_cells := ok_law_cells (P := P) (w := w) (base := base) d__law_cells B
  have k__law_draw := ok_law_draw (P := P) (w := w) (base := base) d__law_draw B
  have k__law_rising := ok_law_rising (P := P) (w := w) (base := base) d__law_rising B k__law_draw
  have k__law_sized := ok_law_sized (P := P) (w := w) (base := base) d__law_sized B k__law_draw k__law_rising
  have k__law_first_line := ok_law_first_line (P := P) (w := w) (base := base) d__law_first_line B
  have k__law_watched := ok_law_watched (P := P) (w := w) (base := base) d__law_watched B k__law_draw k__law_first_line
  have k__law_no_outline := ok_law_no_outline (P := P) (w := w) (base := base) d__law_no_outline B k__law_draw
  have k__law_no_seen := ok_law_no_seen (P := P) (w := w) (base := base) d__law_no_seen B k__law_draw
  have k_is_integer := ok_is_integer (P := P) (w := w) (base := base) d_is_integer B
  have k_is_outline := ok_is_outline (P := P) (w := w) (base := base) d_is_outline B g_MAX_LINES k_is_integer
  have k_check_outline := ok_check_outline (P := P) (w := w) (base := base) d_check_outline B X_InvalidOutlineError k_is_outline
  have k_stops_of := ok_stops_of (P := P) (w := w) (base := base) d_stops_of B
  have k_is_observation := ok_is_observation (P := P) (w := w) (base := base) d_is_observation B k_is_integer
  have k_check_observations := ok_check_observations (P := P) (w := w) (base := base) d_check_observations B X_InvalidObservationsError g_MOST_OBSERVATIONS k_is_observation
  have k_fits := ok_fits (P := P) (w := w) (base := base) d_fits B k_check_outline k_stops_of k_check_observations
  have k_check_lines := ok_check_lines (P := P) (w := w) (base := base) d_check_lines B X_InvalidNumberError g_MOST_LINES k_is_integer
  have k_limits_of := ok_limits_of (P := P) (w := w) (base := base) d_limits_of B
  have k_bounds_of := ok_bounds_of (P := P) (w := w) (base := base) d_bounds_of B k_limits_of
  have k_depth_bounds := ok_depth_bounds (P := P) (w := w) (base := base) d_depth_bounds B k_check_observations k_check_lines k_bounds_of
  have k_conflict := ok_conflict (P := P) (w := w) (base := base) d_conflict B k_check_observations k_check_lines k_bounds_of
  have k_sums_on := ok_sums_on (P := P) (w := w) (base := base) d_sums_on B
  have k_count_fitting := ok_count_fitting (P := P) (w := w) (base := base) d_count_fitting B k_check_observations k_check_lines k_limits_of k_sums_on
  have k__law_kind := ok_law_kind (P := P) (w := w) (base := base) d__law_kind B T_InvalidObservationsError nf_InvalidObservationsError g_EmptyHistoryError g_EndError g_HiddenLineError g_InvalidDepthError g_InvalidDocumentError g_InvalidFoldsError g_InvalidHeightError g_InvalidLineError g_InvalidReadingError g_InvalidScrollError g_InvalidTextError g_InvalidTitleError g_TooDeepError g_TooManyLinesError g_EmptyOutlineError g_InvalidOutlineError g_InvalidNumberError g_InvalidObservationsError n_ValueError T_InvalidOutlineError i_InvalidOutlineError_EmptyHistoryError i_InvalidOutlineError_EndError i_InvalidOutlineError_HiddenLineError i_InvalidOutlineError_InvalidDepthError i_InvalidOutlineError_InvalidDocumentError i_InvalidOutlineError_InvalidFoldsError i_InvalidOutlineError_InvalidHeightError i_InvalidOutlineError_InvalidLineError i_InvalidOutlineError_InvalidReadingError i_InvalidOutlineError_InvalidScrollError i_InvalidOutlineError_InvalidTextError i_InvalidOutlineError_InvalidTitleError i_InvalidOutlineError_TooDeepError i_InvalidOutlineError_TooManyLinesError i_InvalidOutlineError_EmptyOutlineError i_InvalidOutlineError_InvalidOutlineError i_InvalidOutlineError_InvalidNumberError i_InvalidOutlineError_InvalidObservationsError iv_InvalidOutlineError T_InvalidNumberError i_InvalidNumberError_EmptyHistoryError i_InvalidNumberError_EndError i_InvalidNumberError_HiddenLineError i_InvalidNumberError_InvalidDepthError i_InvalidNumberError_InvalidDocumentError i_InvalidNumberError_InvalidFoldsError i_InvalidNumberError_InvalidHeightError i_InvalidNumberError_InvalidLineError i_InvalidNumberError_InvalidReadingError i_InvalidNumberError_InvalidScrollError i_InvalidNumberError_InvalidTextError i_InvalidNumberError_InvalidTitleError i_InvalidNumberError_TooDeepError i_InvalidNumberError_TooManyLinesError i_InvalidNumberError_EmptyOutlineError i_InvalidNumberError_InvalidOutlineError i_InvalidNumberError_InvalidNumberError i_InvalidNumberError_InvalidObservationsError iv_InvalidNumberError i_InvalidObservationsError_EmptyHistoryError i_InvalidObservationsError_EndError i_InvalidObservationsError_HiddenLineError i_InvalidObservationsError_InvalidDepthError i_InvalidObservationsError_InvalidDocumentError i_InvalidObservationsError_InvalidFoldsError i_InvalidObservationsError_InvalidHeightError i_InvalidObservationsError_InvalidLineError i_InvalidObservationsError_InvalidReadingError i_InvalidObservationsError_InvalidScrollError i_InvalidObservationsError_InvalidTextError i_InvalidObservationsError_InvalidTitleError i_InvalidObservationsError_TooDeepError i_InvalidObservationsError_TooManyLinesError i_InvalidObservationsError_EmptyOutlineError i_InvalidObservationsError_InvalidOutlineError i_InvalidObservationsError_InvalidNumberError i_InvalidObservationsError_InvalidObservationsError iv_InvalidObservationsError
  have k__law_error := ok_law_error (P := P) (w := w) (base := base) d__law_error B k_fits k_depth_bounds k_conflict k_count_fitting k__law_kind g_StickyHeadsError m_InvalidOutlineError_StickyHeadsError m_InvalidNumberError_StickyHeadsError m_InvalidObservationsError_StickyHeadsError
  have k__law_right := ok_law_right (P := P) (w := w) (base := base) d__law_right B k__law_draw k__law_sized k__law_watched k__law_no_outline k__law_no_seen k__law_error
  have k_law := ok_law (P := P) (w := w) (base := base) d_law B k__law_bag k__law_cells k__law_right
  exact k_law


end
end Hz
open PySem PySem.W PyProof.Rows
set_option maxRecDepth 100000 in
set_option maxHeartbeats 0 in
theorem PySem.Challenge.cw_stickyheads_k39_errors_of_observations_holds : PySem.Challenge.rw_stickyheads_k39_errors_of_observations.Holds := by
  w_on; o_law; k_head; (case hw => w_witness2)
  k_fill
  refine Hz.walkG (l := PySem.Challenge.rw_stickyheads_k39_errors_of_observations) (n := 63) (k := 7) (x := "script") (CX := fun _ => L2.CX0) (sp := fun w => Hz.sp_law _) rfl (by decide) rfl ⟨⟨rfl, by decide, by decide⟩, rfl⟩ (fun w h Y => PySem.W.kIn_of Y) ?F
    (fun w H a ns hl hb _ hS => by
      obtain ⟨L, l, hS⟩ := Hz.scr_start hS
      exact ⟨a, ns, L, rfl, l, hS, hl, by first | exact fun _ => rfl | exact fun _ _ => rfl⟩) (fun _ _ _ _ _ h => h)
  case F =>
    intro w mg fa h KX G hmg base _ _
    refine Hz.law_ok ⟨?_, ?_, ?_, ?_, ?_, ?_, ?_, ?_, ?_, ?_, ?_, ?_, ?_, ?_, ?_, ?_, ?_, ?_, ?_, ?_⟩ ?_ ?_ ?_ ?_ ?_ ?_ ?_ ?_ ?_ ?_ ?_ ?_ ?_ ?_ ?_ ?_ ?_ ?_ ?_ ?_ ?_ ?_ ?_ ?_ ?_ ?_ ?_ ?_ ?_ ?_ ?_
    iterate 20 (refine Hz.no_mk KX G ?_; k_is)
    · refine' Hz.gv_mk KX G ?a ?r; (case a => k_is); (case r => exact ⟨_, rfl⟩)
    · refine' Hz.gv_mk KX G ?a ?r; (case a => k_is); (case r => exact ⟨_, rfl⟩)
    · refine' Hz.gv_mk KX G ?a ?r; (case a => k_is); (case r => exact ⟨_, rfl⟩)
    iterate 27 (refine' Hz.df_mk KX G ?a ?l ?c ?k; (case a => k_is); (case l => k_is); (case c => k_is); (case k => k_is))
    refine' ⟨_, _, _, _, _, _, _, _, _, _, _, _, _, _, _, _, _, _, _, Hz.errI_mk (qual := "InvalidObservationsError.__init__") (st := Hz.i_InvalidObservationsError) Hz.si_InvalidObservationsError (fun S hm r v A outer s H Q E => Hz.bi_InvalidObservationsError hm r v A outer s H E) (fun a y H Q T no ea k => Hz.ini_run T no ea k) (fun us hl => match us, hl with | [_, _], _ => rfl) (Hz.cls_mk KX G ?hInvalidObservationsError) (Hz.cls_mk KX G ?sInvalidObservationsError) ?aInvalidObservationsError ?bInvalidObservationsError ?cInvalidObservationsError ?dInvalidObservationsError ?eInvalidObservationsError ?fInvalidObservationsError ?iInvalidObservationsError ?jInvalidObservationsError ?kInvalidObservationsError ?lInvalidObservationsError ?mInvalidObservationsError ?nInvalidObservationsError ?oInvalidObservationsError, ⟨?aT_InvalidObservationsError, ?bT_InvalidObservationsError, ?cT_InvalidObservationsError, ?dT_InvalidObservationsError, ?eT_InvalidObservationsError, ?fT_InvalidObservationsError, ?gT_InvalidObservationsError, ?hT_InvalidObservationsError, ?iT_InvalidObservationsError⟩, ?nf_InvalidObservationsError, Hz.cls_mk KX G ?g_EmptyHistoryError, Hz.cls_mk KX G ?g_EndError, Hz.cls_mk KX G ?g_HiddenLineError, Hz.cls_mk KX G ?g_InvalidDepthError, Hz.cls_mk KX G ?g_InvalidDocumentError, Hz.cls_mk KX G ?g_InvalidFoldsError, Hz.cls_mk KX G ?g_InvalidHeightError, Hz.cls_mk KX G ?g_InvalidLineError, Hz.cls_mk KX G ?g_InvalidReadingError, Hz.cls_mk KX G ?g_InvalidScrollError, Hz.cls_mk KX G ?g_InvalidTextError, Hz.cls_mk KX G ?g_InvalidTitleError, Hz.cls_mk KX G ?g_TooDeepError, Hz.cls_mk KX G ?g_TooManyLinesError, Hz.cls_mk KX G ?g_EmptyOutlineError, Hz.cls_mk KX G ?g_InvalidOutlineError, Hz.cls_mk KX G ?g_InvalidNumberError, Hz.cls_mk KX G ?g_InvalidObservationsError, Hz.no_mk KX G ?n_ValueError, ⟨?aT_InvalidOutlineError, ?bT_InvalidOutlineError, ?cT_InvalidOutlineError, ?dT_InvalidOutlineError, ?eT_InvalidOutlineError, ?fT_InvalidOutlineError, ?gT_InvalidOutlineError, ?hT_InvalidOutlineError, ?iT_InvalidOutlineError⟩, ?i_InvalidOutlineError_EmptyHistoryError, ?i_InvalidOutlineError_EndError, ?i_InvalidOutlineError_HiddenLineError, ?i_InvalidOutlineError_InvalidDepthError, ?i_InvalidOutlineError_InvalidDocumentError, ?i_InvalidOutlineError_InvalidFoldsError, ?i_InvalidOutlineError_InvalidHeightError, ?i_InvalidOutlineError_InvalidLineError, ?i_InvalidOutlineError_InvalidReadingError, ?i_InvalidOutlineError_InvalidScrollError, ?i_InvalidOutlineError_InvalidTextError, ?i_InvalidOutlineError_InvalidTitleError, ?i_InvalidOutlineError_TooDeepError, ?i_InvalidOutlineError_TooManyLinesError, ?i_InvalidOutlineError_EmptyOutlineError, ?i_InvalidOutlineError_InvalidOutlineError, ?i_InvalidOutlineError_InvalidNumberError, ?i_InvalidOutlineError_InvalidObservationsError, ?iv_InvalidOutlineError, ⟨?aT_InvalidNumberError, ?bT_InvalidNumberError, ?cT_InvalidNumberError, ?dT_InvalidNumberError, ?eT_InvalidNumberError, ?fT_InvalidNumberError, ?gT_InvalidNumberError, ?hT_InvalidNumberError, ?iT_InvalidNumberError⟩, ?i_InvalidNumberError_EmptyHistoryError, ?i_InvalidNumberError_EndError, ?i_InvalidNumberError_HiddenLineError, ?i_InvalidNumberError_InvalidDepthError, ?i_InvalidNumberError_InvalidDocumentError, ?i_InvalidNumberError_InvalidFoldsError, ?i_InvalidNumberError_InvalidHeightError, ?i_InvalidNumberError_InvalidLineError, ?i_InvalidNumberError_InvalidReadingError, ?i_InvalidNumberError_InvalidScrollError, ?i_InvalidNumberError_InvalidTextError, ?i_InvalidNumberError_InvalidTitleError, ?i_InvalidNumberError_TooDeepError, ?i_InvalidNumberError_TooManyLinesError, ?i_InvalidNumberError_EmptyOutlineError, ?i_InvalidNumberError_InvalidOutlineError, ?i_InvalidNumberError_InvalidNumberError, ?i_InvalidNumberError_InvalidObservationsError, ?iv_InvalidNumberError, ?i_InvalidObservationsError_EmptyHistoryError, ?i_InvalidObservationsError_EndError, ?i_InvalidObservationsError_HiddenLineError, ?i_InvalidObservationsError_InvalidDepthError, ?i_InvalidObservationsError_InvalidDocumentError, ?i_InvalidObservationsError_InvalidFoldsError, ?i_InvalidObservationsError_InvalidHeightError, ?i_InvalidObservationsError_InvalidLineError, ?i_InvalidObservationsError_InvalidReadingError, ?i_InvalidObservationsError_InvalidScrollError, ?i_InvalidObservationsError_InvalidTextError, ?i_InvalidObservationsError_InvalidTitleError, ?i_InvalidObservationsError_TooDeepError, ?i_InvalidObservationsError_TooManyLinesError, ?i_InvalidObservationsError_EmptyOutlineError, ?i_InvalidObservationsError_InvalidOutlineError, ?i_InvalidObservationsError_InvalidNumberError, ?i_InvalidObservationsError_InvalidObservationsError, ?iv_InvalidObservationsError, Hz.cls_mk KX G ?g_StickyHeadsError, Hz.exm_own ?am_InvalidOutlineError_StickyHeadsError ?bm_InvalidOutlineError_StickyHeadsError ?cm_InvalidOutlineError_StickyHeadsError ?dm_InvalidOutlineError_StickyHeadsError, Hz.exm_own ?am_InvalidNumberError_StickyHeadsError ?bm_InvalidNumberError_StickyHeadsError ?cm_InvalidNumberError_StickyHeadsError ?dm_InvalidNumberError_StickyHeadsError, Hz.exm_own ?am_InvalidObservationsError_StickyHeadsError ?bm_InvalidObservationsError_StickyHeadsError ?cm_InvalidObservationsError_StickyHeadsError ?dm_InvalidObservationsError_StickyHeadsError, Hz.excC_mk KX G ?hInvalidOutlineError ?aInvalidOutlineError ?bInvalidOutlineError ?cInvalidOutlineError ?dInvalidOutlineError ?eInvalidOutlineError ?fInvalidOutlineError, Hz.excC_mk KX G ?hInvalidNumberError ?aInvalidNumberError ?bInvalidNumberError ?cInvalidNumberError ?dInvalidNumberError ?eInvalidNumberError ?fInvalidNumberError, trivial⟩
    (case g_EmptyHistoryError => k_is)
    (case g_EndError => k_is)
    (case g_HiddenLineError => k_is)
    (case g_InvalidDepthError => k_is)
    (case g_InvalidDocumentError => k_is)
    (case g_InvalidFoldsError => k_is)
    (case g_InvalidHeightError => k_is)
    (case g_InvalidLineError => k_is)
    (case g_InvalidReadingError => k_is)
    (case g_InvalidScrollError => k_is)
    (case g_InvalidTextError => k_is)
    (case g_InvalidTitleError => k_is)
    (case g_TooDeepError => k_is)
    (case g_TooManyLinesError => k_is)
    (case g_EmptyOutlineError => k_is)
    (case g_InvalidOutlineError => k_is)
    (case g_InvalidNumberError => k_is)
    (case g_InvalidObservationsError => k_is)
    (case g_StickyHeadsError => k_is)
    (case hInvalidObservationsError => first | rfl | k_is); (case sInvalidObservationsError => first | rfl | k_is); (case aInvalidObservationsError => k_is); (case bInvalidObservationsError => k_is); (case cInvalidObservationsError => k_is); (case dInvalidObservationsError => k_is); (case eInvalidObservationsError => k_is); (case fInvalidObservationsError => k_is); (case iInvalidObservationsError => k_is); (case jInvalidObservationsError => k_is); (case kInvalidObservationsError => k_is); (case lInvalidObservationsError => k_is); (case mInvalidObservationsError => k_is); (case nInvalidObservationsError => k_is); (case oInvalidObservationsError => k_is)
    (case aT_InvalidObservationsError => k_is); (case bT_InvalidObservationsError => k_is); (case cT_InvalidObservationsError => k_is); (case dT_InvalidObservationsError => k_is); (case eT_InvalidObservationsError => k_is); (case fT_InvalidObservationsError => k_is); (case gT_InvalidObservationsError => k_is); (case hT_InvalidObservationsError => k_is); (case iT_InvalidObservationsError => k_is)
    (case nf_InvalidObservationsError => k_is)
    (case n_ValueError => k_is)
    (case aT_InvalidOutlineError => k_is); (case bT_InvalidOutlineError => k_is); (case cT_InvalidOutlineError => k_is); (case dT_InvalidOutlineError => k_is); (case eT_InvalidOutlineError => k_is); (case fT_InvalidOutlineError => k_is); (case gT_InvalidOutlineError => k_is); (case hT_InvalidOutlineError => k_is); (case iT_InvalidOutlineError => k_is)
    (case i_InvalidOutlineError_EmptyHistoryError => kit_is)
    (case i_InvalidOutlineError_EndError => kit_is)
    (case i_InvalidOutlineError_HiddenLineError => kit_is)
    (case i_InvalidOutlineError_InvalidDepthError => kit_is)
    (case i_InvalidOutlineError_InvalidDocumentError => kit_is)
    (case i_InvalidOutlineError_InvalidFoldsError => kit_is)
    (case i_InvalidOutlineError_InvalidHeightError => kit_is)
    (case i_InvalidOutlineError_InvalidLineError => kit_is)
    (case i_InvalidOutlineError_InvalidReadingError => kit_is)
    (case i_InvalidOutlineError_InvalidScrollError => kit_is)
    (case i_InvalidOutlineError_InvalidTextError => kit_is)
    (case i_InvalidOutlineError_InvalidTitleError => kit_is)
    (case i_InvalidOutlineError_TooDeepError => kit_is)
    (case i_InvalidOutlineError_TooManyLinesError => kit_is)
    (case i_InvalidOutlineError_EmptyOutlineError => kit_is)
    (case i_InvalidOutlineError_InvalidOutlineError => kit_is)
    (case i_InvalidOutlineError_InvalidNumberError => kit_is)
    (case i_InvalidOutlineError_InvalidObservationsError => kit_is)
    (case iv_InvalidOutlineError => kit_is)
    (case aT_InvalidNumberError => k_is); (case bT_InvalidNumberError => k_is); (case cT_InvalidNumberError => k_is); (case dT_InvalidNumberError => k_is); (case eT_InvalidNumberError => k_is); (case fT_InvalidNumberError => k_is); (case gT_InvalidNumberError => k_is); (case hT_InvalidNumberError => k_is); (case iT_InvalidNumberError => k_is)
    (case i_InvalidNumberError_EmptyHistoryError => kit_is)
    (case i_InvalidNumberError_EndError => kit_is)
    (case i_InvalidNumberError_HiddenLineError => kit_is)
    (case i_InvalidNumberError_InvalidDepthError => kit_is)
    (case i_InvalidNumberError_InvalidDocumentError => kit_is)
    (case i_InvalidNumberError_InvalidFoldsError => kit_is)
    (case i_InvalidNumberError_InvalidHeightError => kit_is)
    (case i_InvalidNumberError_InvalidLineError => kit_is)
    (case i_InvalidNumberError_InvalidReadingError => kit_is)
    (case i_InvalidNumberError_InvalidScrollError => kit_is)
    (case i_InvalidNumberError_InvalidTextError => kit_is)
    (case i_InvalidNumberError_InvalidTitleError => kit_is)
    (case i_InvalidNumberError_TooDeepError => kit_is)
    (case i_InvalidNumberError_TooManyLinesError => kit_is)
    (case i_InvalidNumberError_EmptyOutlineError => kit_is)
    (case i_InvalidNumberError_InvalidOutlineError => kit_is)
    (case i_InvalidNumberError_InvalidNumberError => kit_is)
    (case i_InvalidNumberError_InvalidObservationsError => kit_is)
    (case iv_InvalidNumberError => kit_is)
    (case i_InvalidObservationsError_EmptyHistoryError => kit_is)
    (case i_InvalidObservationsError_EndError => kit_is)
    (case i_InvalidObservationsError_HiddenLineError => kit_is)
    (case i_InvalidObservationsError_InvalidDepthError => kit_is)
    (case i_InvalidObservationsError_InvalidDocumentError => kit_is)
    (case i_InvalidObservationsError_InvalidFoldsError => kit_is)
    (case i_InvalidObservationsError_InvalidHeightError => kit_is)
    (case i_InvalidObservationsError_InvalidLineError => kit_is)
    (case i_InvalidObservationsError_InvalidReadingError => kit_is)
    (case i_InvalidObservationsError_InvalidScrollError => kit_is)
    (case i_InvalidObservationsError_InvalidTextError => kit_is)
    (case i_InvalidObservationsError_InvalidTitleError => kit_is)
    (case i_InvalidObservationsError_TooDeepError => kit_is)
    (case i_InvalidObservationsError_TooManyLinesError => kit_is)
    (case i_InvalidObservationsError_EmptyOutlineError => kit_is)
    (case i_InvalidObservationsError_InvalidOutlineError => kit_is)
    (case i_InvalidObservationsError_InvalidNumberError => kit_is)
    (case i_InvalidObservationsError_InvalidObservationsError => kit_is)
    (case iv_InvalidObservationsError => kit_is)
    (case am_InvalidOutlineError_StickyHeadsError => k_is); (case bm_InvalidOutlineError_StickyHeadsError => k_is); (case cm_InvalidOutlineError_StickyHeadsError => k_is); (case dm_InvalidOutlineError_StickyHeadsError => k_is)
    (case am_InvalidNumberError_StickyHeadsError => k_is); (case bm_InvalidNumberError_StickyHeadsError => k_is); (case cm_InvalidNumberError_StickyHeadsError => k_is); (case dm_InvalidNumberError_StickyHeadsError => k_is)
    (case am_InvalidObservationsError_StickyHeadsError => k_is); (case bm_InvalidObservationsError_StickyHeadsError => k_is); (case cm_InvalidObservationsError_StickyHeadsError => k_is); (case dm_InvalidObservationsError_StickyHeadsError => k_is)
    (case hInvalidOutlineError => k_is); (case aInvalidOutlineError => k_is); (case bInvalidOutlineError => k_exc); (case cInvalidOutlineError => k_is); (case dInvalidOutlineError => k_is); (case eInvalidOutlineError => k_is); (case fInvalidOutlineError => first | rfl | k_is)
    (case hInvalidNumberError => k_is); (case aInvalidNumberError => k_is); (case bInvalidNumberError => k_exc); (case cInvalidNumberError => k_is); (case dInvalidNumberError => k_is); (case eInvalidNumberError => k_is); (case fInvalidNumberError => first | rfl | k_is)
