import PyProof.Rows.All
import Wide.All
import OpenK.AllK
import Wide.FinOn
import PyProof.EqAt
import PyProof.EqKinds
import PyProof.TupleCall
import PyProof.ReprRoads
import HandS.ForMost
import HandS.Exc
import HandS.TryOnly
import HandS.ExcOwn
import HandS.WordsExc
import HandS.EndBits
import HandS.Wide
import HandS.IsInst
import HandS.Flow
import HandS.Style
import HandS.RaiseMore
import HandS.Steps
import HandS.Conv
import HandS.More
import HandS.Deep
import HandS.SortInts
import HandS.SortKw
import HandS.Zip
import PyProof.ReprLen
import HandS.DictComp
import HandS.SortRule
import KE.KExcIs
import HandS.ExcInit
import HandS.ClsMeth
import PySem.Challenge.RW_stickyheads_k43_errors_of_folds
set_option Elab.async false
set_option linter.all false
set_option maxRecDepth 100000
set_option maxHeartbeats 4000000
set_option exponentiation.threshold 2000
/-! Hz, part A: calls of defs where it is known that no repr is under way. -/
namespace Hz
open PySem PySem.Spec PyProof.Rows L2 RZ

/-- room for k calls; no repr is under way -/
structure RoomG (k : Nat) (A : Around) : Prop where
  rm : Room k A
  gd : A.guards = some []
theorem RoomG.mono {j k : Nat} {A : Around} (r : RoomG k A) (h : j ≤ k) : RoomG j A := ⟨r.rm.mono h, r.gd⟩
theorem RoomG.deeper {k : Nat} {A : Around} (r : RoomG (k + 1) A) (env : Env) : RoomG k (A.deeper env) := ⟨r.rm.deeper env, r.gd⟩

/-- a def keeps its promise wherever no repr is under way -/
structure FnG (P : Program) (w : World) (K : PySem.W.Frag) (mg : Str → Option Value) (base : Heap) (CX : CXT) (k : Nat) (f : Addr) (fd : FuncData) (ps : List Str) (sp : Sp) : Prop where
  len : ∀ vs H Q E, sp vs H Q E → vs.length = ps.length
  run : ∀ (A : Around) (outer : List Env) (s : Shared) (H : Hp) (args : Args) (us : List Value) (vs : List V) (Q : VK) (E : XK),
    RoomG k A → Env0 P w K mg base A outer s H → BindsTo s fd args (ps.zip us) → Vals vs us → sp vs H Q E →
      codeAny (model P w) A (.call (.ref f) args) (CR CX outer P w H s Q E) s
theorem FnG.mono {P : Program} {w : World} {K : PySem.W.Frag} {mg : Str → Option Value} {base : Heap} {CX : CXT} {j k : Nat} {f : Addr} {fd : FuncData} {ps : List Str} {sp : Sp}
    (F : FnG P w K mg base CX j f fd ps sp) (h : j ≤ k) : FnG P w K mg base CX k f fd ps sp :=
  ⟨F.len, fun A o s H a us vs Q E r => F.run A o s H a us vs Q E (r.mono h)⟩

/-- by its body -/
theorem fnG_of {CX : CXT} {P : Program} {w : World} {K : PySem.W.Frag} {mg : Str → Option Value} {base : Heap} {k : Nat} {f : Addr} {name qual : Str}
    {params : Arguments} {body : List Stmt} {scope : Scope} {dV kV doc pm cdv ct oc : Value} {an od : Option Addr} {osl : Array (Option Value)} {N ps : List Str} {sp : Sp}
    (lk : K.lookup f = some ⟨oc, od, .func (PySem.W.fnOf name qual params body scope dV kV doc pm an cdv ct), osl⟩)
    (hcd : PySem.W.codeIn K cdv qual = true) (S : FnScope N ps scope) (len : ∀ vs H Q E, sp vs H Q E → vs.length = ps.length)
    (hbody : ∀ (A : Around) (outer : List Env) (s : Shared) (H : Hp) (vs : List V) (Q : VK) (E : XK),
      RoomG k (A.deeper (envOfC qual scope s.heap.objs.size f cdv)) → sp vs H Q E →
      ∃ t, PSs (cxOf CX P w K mg base N qual scope f cdv A outer s H E) body t ∧ t { nx := fun _ H' => Q .non H', rt := Q } (start N vs) H) :
    FnG P w K mg base CX (k + 1) f (PySem.W.fnOf name qual params body scope dV kV doc pm an cdv ct) ps sp := by
  refine ⟨len, fun A outer s H args us vs Q E hr e0 hb r hsp => ?_⟩
  have hl := len _ _ _ _ hsp
  have inK : K.In s.heap := e0.mod.kin.keeps fun b o e => (e0.bs b o e).1
  have lim : s.heap.NoLimit := e0.mod.nolimit.keeps fun b o e => (e0.bs b o e).1
  have kinds : ∀ y ∈ ps.zip us, scope.names.lookup y.1 = some .local ∨ (scope.names.lookup y.1 = some .cell ∧ ((cellsFrom (s.heap.objs.size + 1) scope.names []).lookup y.1).isSome = true) := by
    rintro ⟨n, v⟩ hy
    rcases S.par n (List.of_mem_zip hy).1 with q | q
    · exact .inl q
    · exact .inr ⟨q, PySem.W.cellsFrom_some _ _ _ (.inl q)⟩
  refine codeAny_call_function hr.rm.depth (inK _ _ lk) rfl S.co S.gen rfl (PySem.W.codeRec_of inK hcd) (hb _ _ _ _ ?_)
  refine wpAny_newFunctionEnv_cells S.kind kinds fun env he s1 x => ?_
  subst he
  refine ⟨lim.keeps x.toInCall.keep, codeAny_func ?_⟩
  obtain ⟨t, ht, hq⟩ := hbody A outer s H vs Q E (hr.deeper _) hsp
  have I : Inv (cxOf CX P w K mg base N qual scope f cdv A outer s H E) [] (start N vs) H s1 := inv_start S hr.rm.hd e0 hl r x
  refine wpAny_mono (ht.run [] s1 (start N vs) H _ I hq) (fun fl s' hs => ?_) fun e s' hs => hs
  cases fl with
  | ret u =>
    obtain ⟨v, σ', H', J, rv, q⟩ := hs
    exact ⟨v, H', J.os, J.bare, J.base, J.hok, rv, q⟩
  | next =>
    obtain ⟨σ', H', J, q⟩ := hs
    exact ⟨.non, H', J.os, J.bare, J.base, J.hok, rfl, q⟩
  | brk => obtain ⟨_, _, _, q⟩ := hs; exact q.elim
  | cont => obtain ⟨_, _, _, q⟩ := hs; exact q.elim

section
variable {P : Program} {w : World} {K : PySem.W.Frag} {mg : Str → Option Value} {base : Heap}
theorem FunOkG {CX : CXT} {x qual : Str} {st : Stmt} {f : Addr} {fd : FuncData} {N ps : List Str} {k : Nat} {sp : Sp} (F : Fun K x qual st f fd) (S : FnScope N ps (defScope st))
    (len : ∀ vs H Q E, sp vs H Q E → vs.length = ps.length)
    (hbody : ∀ (cdv : Value) (A : Around) (outer : List Env) (s : Shared) (H : Hp) (vs : List V) (Q : VK) (E : XK), RoomG k (A.deeper (envOfC qual (defScope st) s.heap.objs.size f cdv)) → sp vs H Q E →
      ∃ t, PSs (cxOf CX P w K mg base N qual (defScope st) f cdv A outer s H E) (defBody st) t ∧ t { nx := fun _ H' => Q .non H', rt := Q } (start N vs) H) : FnG P w K mg base CX (k + 1) f fd ps sp := by
  obtain ⟨oc, od, kV, doc, pm, an, cdv, ct, osl, rfl, lk, hcd⟩ := F.ex
  exact fnG_of lk hcd S len fun A outer s H vs Q E hr hsp => hbody cdv A outer s H vs Q E hr hsp
end

/-! ### calls -/
/-- the def's object in the fragment -/
def LK (K : PySem.W.Frag) (f : Addr) (fd : FuncData) : Prop := ∃ (oc : Value) (od : Option Addr) (osl : Array (Option Value)), K.lookup f = some ⟨oc, od, .func fd, osl⟩
theorem _root_.L2.Fun.lk {K : PySem.W.Frag} {x qual : Str} {st : Stmt} {f : Addr} {fd : FuncData} (F : Fun K x qual st f fd) : LK K f fd := by
  obtain ⟨oc, od, kV, doc, pm, an, cdv, ct, osl, rfl, lk, hcd⟩ := F.ex
  exact ⟨oc, od, osl, lk⟩
/-- a def of the module, by its name: it is there, its parameters bind, it keeps its promise -/
def Ok (P : Program) (w : World) (K : PySem.W.Frag) (mg : Str → Option Value) (base : Heap) (CX : CXT) (k : Nat) (x : Str) (ps : List Str) (sp : Sp) : Prop :=
  ∃ (f : Addr) (fd : FuncData), mg x = some (.ref f) ∧ PySem.W.keepIn K (.ref f) = true ∧ Binds K fd ps [] ∧ FnG P w K mg base CX k f fd ps sp ∧ LK K f fd
theorem Ok.mono {P : Program} {w : World} {K : PySem.W.Frag} {mg : Str → Option Value} {base : Heap} {CX : CXT} {j k : Nat} {x : Str} {ps : List Str} {sp : Sp} (F : Ok P w K mg base CX j x ps sp) (h : j ≤ k) : Ok P w K mg base CX k x ps sp := by
  obtain ⟨f, fd, a, b, c, d, e⟩ := F
  exact ⟨f, fd, a, b, c, d.mono h, e⟩
section
variable {X : Cx} {CX : CXT} {k : Nat} {f : Addr} {fd : FuncData} {ps : List Str} {sp : Sp} {E : L2.St → XK} {x : Str} {p pos : Pos} {e : Expr} {es : List Expr} {t : TA}
theorem runG {pins : List (Addr × Obj)} {σ : L2.St} {H : Hp} {s : Shared} {Q : VK} {us : List Value} {vs : List V} (F : FnG X.prog X.w X.K X.mg X.base CX k f fd ps sp) (hr : RoomG k X.A)
    (hb : Binds X.K fd ps []) (hx : PassesAt CX X σ (E σ)) (I : Inv X pins σ H s) (r : Vals vs us) (h : sp vs H Q (E σ)) :
    wpAny (model X.prog X.w) X.A (call (.ref f) us) (EP X pins σ Q) X.xe s := by
  have hl : us.length = ps.length := r.length.symm.trans (F.len _ _ _ _ h)
  have b : BindsTo s fd ⟨us, []⟩ (ps.zip us) := by
    have b := hb s us I.kIn (by rw [List.append_nil, hl])
    rw [List.append_nil] at b
    exact b
  refine wpAny_call (codeAny_mono (F.run X.A X.stack s H ⟨us, []⟩ us vs Q (E σ) hr I.env0 b r h) fun res s' hq => ?_)
  match res, hq with
  | .error e, hq => exact hx pins H s e s' I hq
  | .ok (.ret u), hq => exact I.after hq
  | .ok .next, hq => exact hq.elim
  | .ok .brk, hq => exact hq.elim
  | .ok .cont, hq => exact hq.elim
/-- f(e, ..) -/
theorem pe_callG (F : Ok X.prog X.w X.K X.mg X.base CX k x ps sp) (hr : RoomG k X.A) (hx : ∀ σ, PassesAt CX X σ (E σ)) (ha : PA X (e :: es) t) (hg : Gl X x := by rfl)
    (hdb : (x == ("__debug__" : Str)) = false := by decide) (he : starEach (e :: es) X.env = (false, eval e X.env) :: starEach es X.env := by rfl)
    (hpl : (backTo pos (starEach es X.env)).any (·.1) = false := by rfl) : PE X (.Call (.Name x p) (e :: es) [] pos) (tCallS sp E t) := by
  obtain ⟨f, fd, hm, hk, hb, F, _⟩ := F
  refine ⟨fun pins s σ H Q I h => wpAny_Call_Name_kw (ld_glob I hg hm (PySem.W.callWith_K (h₀ := X.base) I.ok.mod.kin hk ?_ he hpl) hdb)⟩
  exact thn (ha.run pos pins s σ H _ I h) fun us s1 ⟨vs, H1, I1, r, q⟩ => ⟨I1.kIn, runG F hr hb (hx σ) I1 r q⟩
/-- f() -/
theorem pe_callG0 (F : Ok X.prog X.w X.K X.mg X.base CX k x ps sp) (hr : RoomG k X.A) (hx : ∀ σ, PassesAt CX X σ (E σ)) (hg : Gl X x := by rfl)
    (hdb : (x == ("__debug__" : Str)) = false := by decide) : PE X (.Call (.Name x p) [] [] pos) (tCallS sp E tNil) := by
  obtain ⟨f, fd, hm, hk, hb, F, _⟩ := F
  exact ⟨fun pins s σ H Q I h => wpAny_Call_Name_kw (ld_glob I hg hm (PySem.W.callWith_K0 I.kIn hk (runG (us := []) F hr hb (hx σ) I .nil h)) hdb)⟩
/-- no exception leaves the callee -/
theorem pas0 {X : Cx} (σ : L2.St) : PassesAt CX0 X σ (fun _ _ _ => False) := fun _ _ _ _ _ _ h => h.elim
end

/-! ### repr -/
section
variable {X : Cx}
/-- repr(x), x data at any depth -/
def rRepr (K : PySem.W.Frag) : List V → Hp → VK → Prop := fun xs H Q => ∃ x d, xs = [x] ∧ Dp K H x d ∧ d.showable = true ∧ d.depth < 60 ∧ d.shown.length ≤ sizeLine ∧ Q (.str d.shown) H
mutual
theorem dp_noDict {K : PySem.W.Frag} {H : Hp} : ∀ {v : V} {d : PyData}, Dp K H v d → d.hasDict = false
  | _, _, .non => by simp only [PyData.hasDict]
  | _, _, .bl _ => by simp only [PyData.hasDict]
  | _, _, .int _ => by simp only [PyData.hasDict]
  | _, _, .str _ => by simp only [PyData.hasDict]
  | _, _, .lst _ h => by simp only [PyData.hasDict]; exact dpAll_noDict h
  | _, _, .tup _ h => by simp only [PyData.hasDict]; exact dpAll_noDict h
theorem dpAll_noDict {K : PySem.W.Frag} {H : Hp} : ∀ {vs : List V} {ds : List PyData}, DpAll K H vs ds → PyData.hasDictAll ds = false
  | _, _, .nil => by simp only [PyData.hasDictAll]
  | _, _, .cons h r => by simp only [PyData.hasDictAll, dp_noDict h, dpAll_noDict r, Bool.or_false]
end
theorem call_repr (gd : X.A.guards = some []) (hu : X.A.units + 64 < cLine) : CallR X (.builtin "repr") (rRepr X.K) := by
  intro pins s σ H xs us Q I r h
  obtain ⟨x, d, rfl, hd, hs, hk, hz, q⟩ := h
  obtain ⟨u, rfl, ru⟩ := vals1 r
  obtain ⟨as, rd⟩ := Dp.reads I d x u hd ru
  have nd := PyData.noDict_hsm (as := as) (dp_noDict hd)
  cases hd with
  | non =>
    cases (show u = Value.none from ru)
    exact PySem.P.repr_of_none ⟨.str _, H, I.tok _, ⟨_, rfl⟩, by simpa only [PyData.shown] using q⟩
  | bl b =>
    cases (show u = Value.bool b from ru)
    exact PySem.P.repr_of_bool ⟨.str _, H, I.tok _, ⟨_, rfl⟩, by simpa only [PyData.shown] using q⟩
  | int i =>
    obtain ⟨t, rfl⟩ := ru
    exact PySem.P.repr_of_int (by simpa [PyData.showable] using hs) ⟨.str _, H, I.tok _, ⟨_, rfl⟩, by simpa only [PyData.shown] using q⟩
  | str y =>
    obtain ⟨t, rfl⟩ := ru
    exact PySem.P.repr_of_str ⟨.str _, H, I.tok _, ⟨_, rfl⟩, by simpa only [PyData.shown] using q⟩ (by simpa only [PyData.shown] using hz)
  | lst _ _ =>
    cases (show u = Value.ref _ from ru)
    exact repr_of_reads' rd hs nd gd (by omega) (fun _ _ e => e) (fun h' u tk hk => ⟨.str _, H, I.kept hk, ⟨_, rfl⟩, q⟩) hz
  | tup _ _ =>
    cases (show u = Value.ref _ from ru)
    exact repr_of_reads' rd hs nd gd (by omega) (fun _ _ e => e) (fun h' u tk hk => ⟨.str _, H, I.kept hk, ⟨_, rfl⟩, q⟩) hz
end
/-- the law's own list: known by its object, or written -/
def ScrL (K : PySem.W.Frag) (H : Hp) (a : Addr) (xs : List V) : Prop := ∃ its : List Value, Vals xs its ∧ xs.length ≤ sizeLine ∧
  (H a = some (.frz { cls := .type "list", data := .seq its.toArray } (.lst xs)) ∨ K.lookup a = some { cls := .type "list", data := .seq its.toArray })
theorem ScrL.sq {K : PySem.W.Frag} {H : Hp} {a : Addr} {xs : List V} (h : ScrL K H a xs) : SqL K H a xs := by
  obtain ⟨its, r, z, h | h⟩ := h
  · exact .inl (.inr ⟨_, h⟩)
  · have e := r.length
    exact .inr ⟨_, its.toArray, _, h, rfl, rfl, rfl, by simp; omega, by simpa using r⟩
theorem ScrL.obj {X : Cx} {pins : List (Addr × Obj)} {σ : L2.St} {H : Hp} {s : Shared} {a : Addr} {xs : List V} (I : Inv X pins σ H s) (h : ScrL X.K H a xs) : ∃ its : List Value, Vals xs its ∧ s.heap.get? a = some { cls := .type "list", data := .seq its.toArray } := by
  obtain ⟨its, r, z, h | h⟩ := h
  · obtain ⟨e, _⟩ := I.hok a _ h
    exact ⟨its, r, e⟩
  · exact ⟨its, r, I.kIn a _ h⟩
/-- list + list, the left one the law's own -/
def rCatS (K : PySem.W.Frag) : R2 := fun x y H Q => ∃ l b xs zs, x = .ref l ∧ y = .ref b ∧ ScrL K H l xs ∧ H b = some (.lst zs) ∧ xs.length + zs.length ≤ sizeLine ∧ ∀ p, H p = none → Q (.ref p) (upd H p (.lst (xs ++ zs)))
theorem op_catS {X : Cx} : OpR X (binaryOp .Add) (rCatS X.K) := by
  intro pins s σ H x y v u Q I rx ry h
  obtain ⟨l, b, xs, zs, rfl, rfl, hS, hB, hz, q⟩ := h
  cases rx
  cases ry
  obtain ⟨its, r, e⟩ := ScrL.obj I hS
  obtain ⟨_, its2, n2, r2, hl2, e2⟩ := I.lstM hB
  have hl := r.length
  refine PySem.P.add_list e e2 ?_ (by rw [List.size_toArray, List.size_toArray]; omega)
  rw [show its.toArray ++ its2.toArray = (its ++ its2).toArray by simp]
  exact ⟨.ref _, _, I.lnew (t' := s.toks) (r.append r2) (by rw [List.length_append]; omega), rfl, q _ I.fresh⟩
end Hz

/-! Hz, the end of a law: from the promise of the law's def to the claim. -/
namespace Hz
open PySem PySem.Spec PyProof.Rows L2 RZ

/-- what is tracked at the law's entry: the script alone (by its object), or nothing -/
def entryHp (a : Addr) (o : Obj) (xs : List V) (own : Bool) : Hp := fun b => if own = true ∧ b = a then some (.frz o (.lst xs)) else none

theorem law_runs {P : Program} {w : World} {K : PySem.W.Frag} {mg mb : Str → Option Value} {CX : CXT} {k : Nat} {fa a : Addr} {name x : Str} {sp : Sp} {s₁ : Shared} {vs : List Value} {ns : List Int}
    (inK : K.In s₁.heap) (hns : s₁.heap.Ns mainGlobals mg) (hb : s₁.heap.Ns builtinsNs mb) (hbb : ∀ x : Str, x ≠ "__name__" → mb x = bootBuiltins x) (hlim : s₁.heap.NoLimit)
    (hg : s₁.gens = #[]) (ha : s₁.heap.get? a = some { cls := .type "list", data := .seq vs.toArray }) (hi : IntsAre vs ns) (hl : ns.length ≤ sizeLine) (hr : RoomG k callerA)
    (hfa : mg name = some (.ref fa)) (F : ∀ base : Heap, K.In base → base.Ns mainGlobals mg → Ok P w K mg base CX k name [x] sp)
    (hsp : ∀ H : Hp, Only H → ScrL K H a (ns.map V.int) → sp [.ref a] H (fun v _ => v = .bl true) fun _ _ _ => False) (hCX : ∀ H e s', CX [] H s₁ (fun _ _ _ => False) e s' → False) :
    codeAny (model P w) callerA (.call (.ref fa) ⟨[.ref a], []⟩) (fun r s' => r = .ok (.ret (.bool true)) ∧ OldK s₁.heap s'.heap ∧ s'.os = s₁.os ∧ AllBare s'.gens) s₁ := by
  have rv := vals_ints hi
  -- H: the abstract heap at the entry
  have main : ∀ H : Hp, Only H → ScrL K H a (ns.map V.int) → HOk P w H s₁.heap → (∀ b, H b ≠ none → b = a) → (H a ≠ none → K.lookup a = none) →
      codeAny (model P w) callerA (.call (.ref fa) ⟨[.ref a], []⟩) (fun r s' => r = .ok (.ret (.bool true)) ∧ OldK s₁.heap s'.heap ∧ s'.os = s₁.os ∧ AllBare s'.gens) s₁ := by
    intro H only sq hok onlyA apart
    have off : ∀ {b : Addr} {o : Obj}, s₁.heap.get? b = some o → (∀ w n, o.data ≠ .seq w n) → H b = none := by
      intro b o e nd
      cases q : H b with
      | none => rfl
      | some u =>
        obtain rfl := onlyA b (by rw [q]; simp)
        rw [ha] at e
        cases e
        exact absurd rfl (nd _ _)
    have ns' : ∀ {b : Addr} {m : Str → Option Value}, s₁.heap.Ns b m → (hidT s₁.heap H).Ns b m := by
      rintro b m ⟨o, es, ep, e, d, r⟩
      exact ⟨o, es, ep, hidT_get e (off e fun w n z => by rw [d] at z; cases z), d, r⟩
    have kb : K.In (hidT s₁.heap H) := by
      intro b o e
      refine hidT_get (inK b o e) ?_
      cases q : H b with
      | none => rfl
      | some u =>
        have z := onlyA b (by rw [q]; simp)
        rw [z] at q e
        have z2 := apart (by rw [q]; simp)
        rw [z2] at e
        cases e
    have md : Mod K mg (hidT s₁.heap H) := ⟨kb, ns' hns, ⟨mb, ns' hb, hbb⟩, let ⟨mc, h1, h2⟩ := hlim; ⟨mc, ns' h1, h2⟩⟩
    have noF : ∀ b, b ∉ frs [] := fun b z => by cases z
    have e0 : Env0 P w K mg (hidT s₁.heap H) callerA [] s₁ H := ⟨rfl, md, fun b o e => of_hidT e, Nat.le_of_eq (hidT_size _ _), trivial, fun b z => (noF b z).elim, hok, .of_eq hg⟩
    obtain ⟨f, fd, hf, _, hb, G, _⟩ := F _ kb (ns' hns)
    rw [hfa] at hf
    cases hf
    refine codeAny_mono (G.run callerA [] s₁ H ⟨[.ref a], []⟩ [.ref a] [.ref a] _ _ hr e0 (hb s₁ [.ref a] inK rfl) (.cons rfl .nil) (hsp H only sq)) fun r s' h => ?_
    match r, h with
    | .error e, h => exact (hCX H e s' h).elim
    | .ok .next, h => exact h.elim
    | .ok .brk, h => exact h.elim
    | .ok .cont, h => exact h.elim
    | .ok (.ret u), h =>
      obtain ⟨v, H', os, bare, un, hok', rv', q⟩ := h
      obtain rfl : v = .bl true := q
      obtain rfl : u = Value.bool true := rv'
      refine ⟨rfl, OldK.of_keep fun b o e => ?_, os, bare⟩
      cases q : H b with
      | none => exact un.keep b o e q (noF b) (by simp)
      | some t =>
        rcases only b with z | ⟨ob, xs, z⟩
        · rw [q] at z; cases z
        · obtain ⟨e1, _⟩ := hok b _ z
          obtain ⟨e2, _⟩ := hok' b _ (un.frzs b ob _ z)
          rw [e] at e1
          cases e1
          exact e2
  have vsz := hi.length
  cases hk : K.lookup a with
  | some o =>
    have e := inK a o hk
    rw [ha] at e
    cases e
    refine main (fun _ => none) (fun _ => .inl rfl) ⟨vs, rv, by rw [List.length_map]; exact hl, .inr hk⟩ (fun b u z => by cases (show (none : Option HO) = some u from z)) (fun b z => absurd rfl z) fun z => absurd rfl z
  | none =>
    have at_ : entryHp a { cls := .type "list", data := .seq vs.toArray } (ns.map V.int) true a = some (.frz { cls := .type "list", data := .seq vs.toArray } (.lst (ns.map V.int))) := by
      unfold entryHp; simp
    have else_ : ∀ b, b ≠ a → entryHp a { cls := .type "list", data := .seq vs.toArray } (ns.map V.int) true b = none := fun b hb => by
      unfold entryHp; simp [hb]
    refine main (entryHp a { cls := .type "list", data := .seq vs.toArray } (ns.map V.int) true) (fun b => ?_) ⟨vs, rv, by rw [List.length_map]; exact hl, .inl at_⟩ (fun b u z => ?_) (fun b z => ?_) fun _ => hk
    · by_cases hb : b = a
      · subst hb; exact .inr ⟨_, _, at_⟩
      · exact .inl (else_ b hb)
    · by_cases hb : b = a
      · subst hb
        rw [at_] at z
        cases z
        exact ⟨ha, by rw [List.length_map]; exact hl, vs, _, rv, ha⟩
      · rw [else_ b hb] at z; cases z
    · exact Decidable.byContradiction fun hb => z (else_ b hb)

/-- the claim, from the promise of the law's def; the bits of the script's ints are told -/
theorem walkG {l : PySem.W.OpenLaw} {n k : Nat} {q : Program} {loose : List Str} {XP : (Str → Option Value) → Heap → Prop} {YP : World → Heap → Prop} {d : DefRec} {K : Params → PySem.W.Frag} {CX : World → CXT} {sp : World → Sp} {x : Str}
    (hn : l.most = some n) (hn2 : n ≤ sizeLine) (hdf : d.params.defaults = []) (hr : RoomG k callerA) (hY : ∀ (w : World) (h : Heap), YP w h → (K w.params).In h)
    (F : ∀ (w : World) (mg : Str → Option Value) (fa : Addr) (h : Heap), (K w.params).In h → h.Ns mainGlobals mg → mg d.name = some (.ref fa) →
      ∀ base : Heap, (K w.params).In base → base.Ns mainGlobals mg → Ok l.prog w (K w.params) mg base (CX w) k d.name [x] (sp w))
    (hsp : ∀ (w : World) (H : Hp) (a : Addr) (ns : List Int), ns.length ≤ n → (∀ z ∈ ns, Builtin.Int.intBits z ≤ 1048576) → Only H → ScrL (K w.params) H a (ns.map V.int) → sp w [.ref a] H (fun v _ => v = .bl true) fun _ _ _ => False)
    (hCX : ∀ (w : World) (H : Hp) (s : Shared) (e : Value) (s' : Shared), CX w [] H s (fun _ _ _ => False) e s' → False) :
    PySem.W.WalkO q loose XP YP l.row.toRowW d [] (fun f vs => PySem.call f vs) := by
  refine Att.attach_callB hn hdf fun w s₀ s₁ mg mb fa o pm cd doc a vs ns G Y ho hd hcd hmg hobj hints hlen hbits hg => ?_
  have inK := hY w _ Y
  have ok := F w mg fa _ inK G.T.g hmg
  exact law_runs inK G.T.g G.T.b G.T.builtins G.T.nolimit hg hobj hints (Nat.le_trans hlen hn2) hr hmg ok (fun H hO hS => hsp w H a ns hlen hbits hO hS) fun H e s' => hCX w H s₁ e s'
end Hz

/-! Hz, part B: what is known of the heap as a ledger; readings walked from the left. -/
namespace Hz
open PySem PySem.Spec PyProof.Rows L2 RZ
abbrev SS := L2.St
abbrev Lg := List (Addr × HO)
/-- the heap holds the ledger; no address twice -/
structure Led (H : Hp) (L : Lg) : Prop where
  has : ∀ p ∈ L, H p.1 = some p.2
  nd : (L.map (·.1)).Nodup
/-- (a, o) stands in L, R is the rest -/
inductive Pick (a : Addr) (o : HO) : Lg → Lg → Prop where
  | head {R : Lg} : Pick a o ((a, o) :: R) R
  | tail {x : Addr × HO} {L R : Lg} : Pick a o L R → Pick a o (x :: L) (x :: R)
/-- M is part of L -/
inductive Sub : Lg → Lg → Prop where
  | refl {L : Lg} : Sub L L
  | drop {x : Addr × HO} {L M : Lg} : Sub L M → Sub (x :: L) M
  | take {a : Addr} {o : HO} {L R M : Lg} : Pick a o L R → Sub R M → Sub L ((a, o) :: M)
theorem Pick.perm {a : Addr} {o : HO} {L R : Lg} (h : Pick a o L R) : L.Perm ((a, o) :: R) := by
  induction h with
  | head => exact .refl _
  | tail _ ih => exact (ih.cons _).trans (.swap _ _ _)
theorem Led.perm {H : Hp} {L M : Lg} (l : Led H L) (p : L.Perm M) : Led H M :=
  ⟨fun x hx => l.has x (p.mem_iff.mpr hx), (p.map (·.1)).nodup_iff.mp l.nd⟩
theorem Led.pick {H : Hp} {a : Addr} {o : HO} {L R : Lg} (l : Led H L) (p : Pick a o L R) : Led H ((a, o) :: R) := l.perm p.perm
theorem Led.get {H : Hp} {a : Addr} {o : HO} {L R : Lg} (l : Led H L) (p : Pick a o L R) : H a = some o := (l.pick p).has (a, o) (.head _)
theorem Led.tail {H : Hp} {x : Addr × HO} {L : Lg} (l : Led H (x :: L)) : Led H L :=
  ⟨fun p hp => l.has p (.tail _ hp), (List.nodup_cons.mp l.nd).2⟩
theorem Led.put {H : Hp} {a : Addr} {o o' : HO} {R : Lg} (l : Led H ((a, o) :: R)) : Led (upd H a o') ((a, o') :: R) := by
  have n := (List.nodup_cons.mp l.nd).1
  refine ⟨fun p hp => ?_, l.nd⟩
  rcases List.mem_cons.mp hp with rfl | hp
  · exact upd_same
  · rw [upd_ne (fun e => n (List.mem_map.mpr ⟨p, hp, e⟩))]
    exact l.has p (.tail _ hp)
theorem Led.new {H : Hp} {p : Addr} {o : HO} {L : Lg} (l : Led H L) (h : H p = none) : Led (upd H p o) ((p, o) :: L) := by
  have ne : ∀ q ∈ L, q.1 ≠ p := fun q hq e => by
    have z := l.has q hq
    rw [e, h] at z
    cases z
  refine ⟨fun q hq => ?_, List.nodup_cons.mpr ⟨fun hm => ?_, l.nd⟩⟩
  · rcases List.mem_cons.mp hq with rfl | hq
    · exact upd_same
    · rw [upd_ne (ne q hq)]
      exact l.has q hq
  · obtain ⟨q, hq, e⟩ := List.mem_map.mp hm
    exact ne q hq e
theorem Led.cons {H : Hp} {a : Addr} {o : HO} {R M : Lg} (l : Led H ((a, o) :: R)) (s : ∀ x ∈ M.map (·.1), x ∈ R.map (·.1)) (m : Led H M) : Led H ((a, o) :: M) :=
  ⟨fun p hp => (List.mem_cons.mp hp).elim (fun e => by rw [e]; exact l.has _ (.head _)) (m.has p), List.nodup_cons.mpr ⟨fun h => (List.nodup_cons.mp l.nd).1 (s _ h), m.nd⟩⟩
theorem Sub.mem {L M : Lg} (s : Sub L M) : ∀ x ∈ M, x ∈ L := by
  induction s with
  | refl => exact fun _ h => h
  | drop _ ih => exact fun x h => .tail _ (ih x h)
  | take p _ ih =>
    intro x h
    rcases List.mem_cons.mp h with rfl | h
    · exact p.perm.mem_iff.mpr (.head _)
    · exact p.perm.mem_iff.mpr (.tail _ (ih x h))
theorem Led.sub {H : Hp} {L M : Lg} (l : Led H L) (s : Sub L M) : Led H M := by
  induction s with
  | refl => exact l
  | drop _ ih => exact ih l.tail
  | take p s ih =>
    refine (l.pick p).cons (fun x hx => ?_) (ih (l.pick p).tail)
    obtain ⟨q, hq, e⟩ := List.mem_map.mp hx
    exact List.mem_map.mpr ⟨q, s.mem q hq, e⟩
theorem Led.nil {H : Hp} : Led H [] := ⟨fun _ h => (nomatch h), List.nodup_nil⟩

/-- from every heap that holds L -/
def Tr (L : Lg) (G : Hp → Prop) : Prop := ∀ H, Led H L → G H
theorem Tr.of {L : Lg} {G : Hp → Prop} {H : Hp} (t : Tr L G) (l : Led H L) : G H := t H l
theorem Tr.sub {L M : Lg} {G : Hp → Prop} (t : Tr M G) (s : Sub L M) : Tr L G := fun H l => t H (l.sub s)
theorem Tr.pick {a : Addr} {o : HO} {L R : Lg} {G : Hp → Prop} (p : Pick a o L R) (t : Tr ((a, o) :: R) G) : Tr L G := fun H l => t H (l.pick p)

/-- the slot i of σ becomes x -/
inductive SetAt : SS → Nat → Option V → SS → Prop where
  | zero {x y : Option V} {r : SS} : SetAt (y :: r) 0 x (x :: r)
  | succ {i : Nat} {x y : Option V} {r r' : SS} : SetAt r i x r' → SetAt (y :: r) (i + 1) x (y :: r')
theorem SetAt.eq {σ σ' : SS} {i : Nat} {x : Option V} (h : SetAt σ i x σ') : σ.set i x = σ' := by
  induction h with
  | zero => rfl
  | succ _ ih => rw [List.set_cons_succ, ih]

/-- None -/
def isNon : V → Bool
  | .non => true
  | _ => false
theorem isNon_dec (x : V) : decide (x = .non) = isNon x := by cases x <;> first | rfl | exact decide_eq_false (fun h => nomatch h)
section
variable {L R : Lg} {σ σ' : SS} {Q : VK} {QB : Bool → Hp → Prop} {QA : List V → Hp → Prop} {G : Hp → Prop} {K : PySem.W.Frag} {ta tb tc te tl : TE} {t u : TT} {tr : TA} {v x y : V} {i : Nat} {a p : Addr} {xs : List V}
/-! ### expressions -/
theorem t_var (h : σ[i]? = some (some v)) (k : Tr L fun H => Q v H) : Tr L fun H => tVar i σ H Q := fun H l => ⟨v, h, k H l⟩
theorem t_c (k : Tr L fun H => Q v H) : Tr L fun H => tC v σ H Q := k
theorem t_op {r : R2} (k : Tr L fun H => ta σ H fun x H1 => tb σ H1 fun y H2 => r x y H2 Q) : Tr L fun H => tOp r ta tb σ H Q := k
theorem t_un {r : V → Hp → VK → Prop} (k : Tr L fun H => ta σ H fun x H1 => r x H1 Q) : Tr L fun H => tUn r ta σ H Q := k
theorem t_rI {C : Int → Int → Prop} {g : Int → Int → V} {m n : Int} (hc : C m n) (k : Tr L fun H => Q (g m n) H) : Tr L fun H => rI C g (.int m) (.int n) H Q := fun H l => ⟨m, n, rfl, rfl, hc, k H l⟩
theorem t_rI0 {g : Int → Int → V} {m n : Int} (k : Tr L fun H => Q (g m n) H) : Tr L fun H => rI0 g (.int m) (.int n) H Q := fun H l => ⟨m, n, rfl, rfl, k H l⟩
theorem t_rU {g : Int → V} {m : Int} (k : Tr L fun H => Q (g m) H) : Tr L fun H => rU g (.int m) H Q := fun H l => ⟨m, rfl, k H l⟩
theorem dec_int (m n : Int) : decide (V.int m = V.int n) = decide (m = n) := by simp
theorem dec_bl (m n : Bool) : decide (V.bl m = V.bl n) = (m == n) := by cases m <;> cases n <;> rfl
theorem dec_str (m n : Str) : decide (V.str m = V.str n) = decide (m = n) := by simp
theorem t_eqI {m n : Int} (k : Tr L fun H => Q (.bl (decide (m = n))) H) : Tr L fun H => rEq (.int m) (.int n) H Q := fun H l => ⟨rfl, by rw [dec_int]; exact k H l⟩
theorem t_eqB {m n : Bool} (k : Tr L fun H => Q (.bl (m == n)) H) : Tr L fun H => rEq (.bl m) (.bl n) H Q := fun H l => ⟨rfl, by rw [dec_bl]; exact k H l⟩
theorem t_eqS {m n : Str} (k : Tr L fun H => Q (.bl (decide (m = n))) H) : Tr L fun H => rEq (.str m) (.str n) H Q := fun H l => ⟨rfl, by rw [dec_str]; exact k H l⟩
theorem t_eq (hs : scal x y = true) (k : Tr L fun H => Q (.bl (decide (x = y))) H) : Tr L fun H => rEq x y H Q := fun H l => ⟨hs, k H l⟩
theorem t_neI {m n : Int} (k : Tr L fun H => Q (.bl (!decide (m = n))) H) : Tr L fun H => rNe (.int m) (.int n) H Q := fun H l => ⟨rfl, by rw [dec_int]; exact k H l⟩
theorem t_neB {m n : Bool} (k : Tr L fun H => Q (.bl (!(m == n))) H) : Tr L fun H => rNe (.bl m) (.bl n) H Q := fun H l => ⟨rfl, by rw [dec_bl]; exact k H l⟩
theorem t_neS {m n : Str} (k : Tr L fun H => Q (.bl (!decide (m = n))) H) : Tr L fun H => rNe (.str m) (.str n) H Q := fun H l => ⟨rfl, by rw [dec_str]; exact k H l⟩
theorem t_ne (hs : scal x y = true) (k : Tr L fun H => Q (.bl (!decide (x = y))) H) : Tr L fun H => rNe x y H Q := fun H l => ⟨hs, k H l⟩
theorem t_isN (k : Tr L fun H => Q (.bl (isNon x)) H) : Tr L fun H => rIsN x .non H Q := fun H l => ⟨rfl, by rw [isNon_dec]; exact k H l⟩
theorem t_notN (k : Tr L fun H => Q (.bl (!isNon x)) H) : Tr L fun H => rNotN x .non H Q := fun H l => ⟨rfl, by rw [isNon_dec]; exact k H l⟩
/-- a chain a < b < c -/
theorem t_chain {r r' : R2} (k : Tr L fun H => ta σ H fun x H1 => tb σ H1 fun y H2 => r x y H2 fun z H3 => ∃ k, z = .bl k ∧ (if k = true then tc σ H3 fun w' H4 => r' y w' H4 Q else Q (.bl false) H3)) : Tr L fun H => tChain r r' ta tb tc σ H Q := k
/-! ### tests -/
theorem t_test (k : Tr L fun H => te σ H fun x H1 => ∃ c, x = .bl c ∧ QB c H1) : Tr L fun H => tTest te σ H QB := k
theorem t_B (k : Tr L fun H => te σ H fun x H1 => ∃ c, x = .bl c ∧ QB c H1) : Tr L fun H => tB te σ H QB := k
theorem t_bl {b : Bool} {G : Bool → Hp → Prop} (k : Tr L fun H => G b H) : Tr L fun H => ∃ c, V.bl b = .bl c ∧ G c H := fun H l => ⟨b, rfl, k H l⟩
theorem t_and (k : Tr L fun H => t σ H fun c H1 => if c = true then u σ H1 QB else QB false H1) : Tr L fun H => tAnd t u σ H QB := k
theorem t_or (k : Tr L fun H => t σ H fun c H1 => if c = true then QB true H1 else u σ H1 QB) : Tr L fun H => tOr t u σ H QB := k
theorem t_not (k : Tr L fun H => t σ H fun c H1 => QB (!c) H1) : Tr L fun H => tNot t σ H QB := k
theorem t_andV (k : Tr L fun H => ta σ H fun x H1 => ∃ c, x = .bl c ∧ if c = true then tb σ H1 Q else Q (.bl false) H1) : Tr L fun H => tAndV ta tb σ H Q := k
theorem t_orV (k : Tr L fun H => ta σ H fun x H1 => ∃ c, x = .bl c ∧ if c = true then Q (.bl true) H1 else tb σ H1 Q) : Tr L fun H => tOrV ta tb σ H Q := k
theorem t_notV (k : Tr L fun H => ta σ H fun x H1 => ∃ c, x = .bl c ∧ Q (.bl (!c)) H1) : Tr L fun H => tNotV ta σ H Q := k
theorem t_ifE (k : Tr L fun H => t σ H fun c H1 => if c = true then ta σ H1 Q else tb σ H1 Q) : Tr L fun H => tIf t ta tb σ H Q := k
theorem t_ite {b : Bool} {G1 G2 : Hp → Prop} (h1 : b = true → Tr L G1) (h2 : b = false → Tr L G2) : Tr L fun H => if b = true then G1 H else G2 H := fun H l => by
  cases b with
  | true => rw [if_pos rfl]; exact h1 rfl H l
  | false => rw [if_neg Bool.false_ne_true]; exact h2 rfl H l
theorem t_iteD {c : Prop} [Decidable c] {G1 G2 : Hp → Prop} (h1 : c → Tr L G1) (h2 : ¬ c → Tr L G2) : Tr L fun H => if decide c = true then G1 H else G2 H :=
  t_ite (fun h => h1 (of_decide_eq_true h)) fun h => h2 (of_decide_eq_false h)
theorem t_iteND {c : Prop} [Decidable c] {G1 G2 : Hp → Prop} (h1 : ¬ c → Tr L G1) (h2 : c → Tr L G2) : Tr L fun H => if (!decide c) = true then G1 H else G2 H :=
  t_ite (fun h => h1 (by simpa using h)) fun h => h2 (by simpa using h)
theorem t_iteT {G1 G2 : Hp → Prop} (k : Tr L G1) : Tr L fun H => if true = true then G1 H else G2 H := fun H l => iteT (k H l)
theorem t_iteF {G1 G2 : Hp → Prop} (k : Tr L G2) : Tr L fun H => if false = true then G1 H else G2 H := fun H l => iteF (k H l)
theorem t_ifT {b : Bool} {G1 G2 : Hp → Prop} (h : b = true) (k : Tr L G1) : Tr L fun H => if b = true then G1 H else G2 H := t_ite (fun _ => k) fun h2 => absurd (h.symm.trans h2) (by decide)
theorem t_ifF {b : Bool} {G1 G2 : Hp → Prop} (h : b = false) (k : Tr L G2) : Tr L fun H => if b = true then G1 H else G2 H := t_ite (fun h2 => absurd (h2.symm.trans h) (by decide)) fun _ => k
/-! ### displays, arguments -/
theorem t_nil (k : Tr L fun H => QA [] H) : Tr L fun H => tNil σ H QA := k
theorem t_cons (k : Tr L fun H => ta σ H fun x H1 => tr σ H1 fun xs H2 => QA (x :: xs) H2) : Tr L fun H => tCons ta tr σ H QA := k
def newL (xs : List V) (H : Hp) (Q : VK) : Prop := xs.length ≤ sizeLine ∧ ∀ p, H p = none → Q (.ref p) (upd H p (.lst xs))
def newT (xs : List V) (H : Hp) (Q : VK) : Prop := xs.length ≤ sizeLine ∧ ∀ p, H p = none → Q (.ref p) (upd H p (.tup xs))
theorem t_lst (k : Tr L fun H => tr σ H fun xs H1 => newL xs H1 Q) : Tr L fun H => tLst tr σ H Q := k
theorem t_tup (k : Tr L fun H => tr σ H fun xs H1 => newT xs H1 Q) : Tr L fun H => tTup tr σ H Q := k
theorem t_newL (hz : xs.length ≤ sizeLine) (k : ∀ p, Tr ((p, .lst xs) :: L) fun H => Q (.ref p) H) : Tr L fun H => newL xs H Q := fun H l => ⟨hz, fun p hp => k p _ (l.new hp)⟩
theorem t_newT (hz : xs.length ≤ sizeLine) (k : ∀ p, Tr ((p, .tup xs) :: L) fun H => Q (.ref p) H) : Tr L fun H => newT xs H Q := fun H l => ⟨hz, fun p hp => k p _ (l.new hp)⟩
/-! ### calls -/
theorem t_callS {sp : Sp} {E : SS → XK} (k : Tr L fun H => tr σ H fun vs H1 => sp vs H1 Q (E σ)) : Tr L fun H => tCallS sp E tr σ H Q := k
theorem t_CB {r : List V → Hp → VK → Prop} (k : Tr L fun H => tr σ H fun vs H1 => r vs H1 Q) : Tr L fun H => tCB r tr σ H Q := k
theorem t_BM0 {T : String} {r : V → List V → Hp → VK → Prop} (k : Tr L fun H => te σ H fun x H1 => tyV K T x H1 ∧ r x [] H1 Q) : Tr L fun H => tBM0 K T r te σ H Q := k
theorem t_BM {T : String} {r : V → List V → Hp → VK → Prop} (k : Tr L fun H => te σ H fun x H1 => tyV K T x H1 ∧ tr σ H1 fun xs H2 => r x xs H2 Q) : Tr L fun H => tBM K T r te tr σ H Q := k
theorem t_tyL (hp : Pick p (.lst xs) L R) (k : Tr L G) : Tr L fun H => tyV K "list" (.ref p) H ∧ G H := fun H l => ⟨.inl ⟨rfl, xs, .inl (.inl (l.get hp))⟩, k H l⟩
theorem t_tyS {z : Str} (k : Tr L G) : Tr L fun H => tyV K "str" (.str z) H ∧ G H := fun H l => ⟨rfl, k H l⟩
theorem t_append (hp : Pick p (.lst xs) L R) (hz : xs.length < sizeLine) (k : Tr ((p, .lst (xs ++ [y])) :: R) fun H => Q .non H) : Tr L fun H => rAppend (.ref p) [y] H Q :=
  fun H l => ⟨p, xs, y, rfl, rfl, l.get hp, hz, k _ (l.pick hp).put⟩
theorem t_popM (hp : Pick p (.lst xs) L R) (hy : xs[xs.length - 1]? = some y) (k : Tr ((p, .lst xs.dropLast) :: R) fun H => Q y H) : Tr L fun H => rPop (.ref p) [] H Q :=
  fun H l => ⟨p, xs, y, rfl, rfl, l.get hp, hy, k _ (l.pick hp).put⟩
theorem t_reverse (hp : Pick p (.lst xs) L R) (k : Tr ((p, .lst xs.reverse) :: R) fun H => Q .non H) : Tr L fun H => rReverse (.ref p) [] H Q :=
  fun H l => ⟨p, xs, rfl, rfl, l.get hp, k _ (l.pick hp).put⟩
theorem t_clear (hp : Pick p (.lst xs) L R) (k : Tr ((p, .lst []) :: R) fun H => Q .non H) : Tr L fun H => rClear (.ref p) [] H Q :=
  fun H l => ⟨p, xs, rfl, rfl, l.get hp, k _ (l.pick hp).put⟩
/-! ### subscripts, slices -/
theorem sqL (hp : Pick p (.lst xs) L R) {H : Hp} (l : Led H L) : SqL K H p xs := .inl (.inl (l.get hp))
theorem sqT (hp : Pick p (.tup xs) L R) {H : Hp} (l : Led H L) : SqT K H p xs := .inl (.inl (l.get hp))
theorem t_ixL {m : Int} (hp : Pick p (.lst xs) L R) (ha : atI xs m = some v) (k : Tr L fun H => Q v H) : Tr L fun H => rIxL K (.ref p) (.int m) H Q := fun H l => ⟨p, xs, m, v, rfl, rfl, sqL hp l, ha, k H l⟩
theorem t_ixT {m : Int} (hp : Pick p (.tup xs) L R) (ha : atI xs m = some v) (k : Tr L fun H => Q v H) : Tr L fun H => rIxT K (.ref p) (.int m) H Q := fun H l => ⟨p, xs, m, v, rfl, rfl, sqT hp l, ha, k H l⟩
theorem t_ixS {z : Str} {m : Int} {c : Nat} (hz : z.length ≤ sizeLine) (ha : atI z.cps.toList m = some c) (k : Tr L fun H => Q (.str ⟨#[c]⟩) H) : Tr L fun H => rIxS (.str z) (.int m) H Q := fun H l => ⟨z, m, c, rfl, rfl, hz, ha, k H l⟩
theorem t_slice {r : V → Option Int → Option Int → Hp → VK → Prop} {lo hi : TO} (k : Tr L fun H => te σ H fun x H1 => lo σ H1 fun l H2 => hi σ H2 fun u H3 => r x l u H3 Q) : Tr L fun H => tSl r te lo hi σ H Q := k
theorem t_noPart {QO : Option Int → Hp → Prop} (k : Tr L fun H => QO none H) : Tr L fun H => tNoPart σ H QO := k
theorem t_part {QO : Option Int → Hp → Prop} (k : Tr L fun H => te σ H fun x H1 => ∃ i, x = .int i ∧ QO (some i) H1) : Tr L fun H => tPart te σ H QO := k
theorem t_int {m : Int} {G : Int → Hp → Prop} (k : Tr L fun H => G m H) : Tr L fun H => ∃ i, V.int m = .int i ∧ G i H := fun H l => ⟨m, rfl, k H l⟩
theorem t_slL {lo hi : Option Int} (hp : Pick a (.lst xs) L R) (k : ∀ p, Tr ((p, .lst (cutV xs lo hi)) :: L) fun H => Q (.ref p) H) : Tr L fun H => rSlL K (.ref a) lo hi H Q := fun H l => ⟨a, xs, rfl, sqL hp l, fun p hp' => k p _ (l.new hp')⟩
theorem t_cat {ys : List V} {R' : Lg} {b : Addr} (hp : Pick a (.lst xs) L R) (hq : Pick b (.lst ys) L R') (hz : xs.length + ys.length ≤ sizeLine) (k : ∀ p, Tr ((p, .lst (xs ++ ys)) :: L) fun H => Q (.ref p) H) :
    Tr L fun H => rCat (.ref a) (.ref b) H Q := fun H l => ⟨a, b, xs, ys, rfl, rfl, l.get hp, l.get hq, hz, fun p hp' => k p _ (l.new hp')⟩
theorem t_rep {m : Int} (hp : Pick a (.lst xs) L R) (h1 : -(2 ^ 63) ≤ m) (h2 : m < 2 ^ 63) (hz : xs.length * m.toNat ≤ sizeLine) (k : ∀ p, Tr ((p, .lst (List.replicate m.toNat xs).flatten) :: L) fun H => Q (.ref p) H) :
    Tr L fun H => rRep (.ref a) (.int m) H Q := fun H l => ⟨a, m, xs, rfl, rfl, l.get hp, h1, h2, hz, fun p hp' => k p _ (l.new hp')⟩
/-! ### statements -/
variable {D : Ends} {s1 s2 : TS} {g : TG}
theorem t_seq (k : Tr L fun H => s1 { D with nx := s2 D } σ H) : Tr L fun H => tSeq s1 s2 D σ H := k
theorem t_next (k : Tr L fun H => D.nx σ H) : Tr L fun H => tNext D σ H := k
theorem t_brk (k : Tr L fun H => D.bk σ H) : Tr L fun H => tBreak D σ H := k
theorem t_cnt (k : Tr L fun H => D.ct σ H) : Tr L fun H => tCont D σ H := k
theorem t_asg (k : Tr L fun H => te σ H fun x H1 => g x σ H1 D.nx) : Tr L fun H => tAsg te g D σ H := k
theorem t_name {Qn : SS → Hp → Prop} (hs : SetAt σ i (some v) σ') (k : Tr L fun H => Qn σ' H) : Tr L fun H => gName i v σ H Qn := fun H l => by
  show Qn (σ.set i (some v)) H
  rw [hs.eq]; exact k H l
theorem t_aug {ti : TIp} (h : σ[i]? = some (some x)) (k : Tr L fun H => te σ H fun y H1 => ti x y H1 fun z H2 => gName i z σ H2 D.nx) : Tr L fun H => tAug i te ti D σ H := fun H l => ⟨x, h, k H l⟩
theorem t_ipI {f : Int → Int → Int} {m n : Int} (k : Tr L fun H => Q (.int (f m n)) H) : Tr L fun H => ipI f (.int m) (.int n) H Q := fun H l => ⟨m, n, rfl, rfl, k H l⟩
theorem t_par {j : Nat} (k : Tr L fun H => tr σ H fun vs H1 => ∃ v w, vs = [v, w] ∧ gName i v σ H1 fun σ3 H3 => gName j w σ3 H3 D.nx) : Tr L fun H => tPar i j tr D σ H := k
theorem t_two {w : V} {G : V → V → Hp → Prop} (k : Tr L fun H => G v w H) : Tr L fun H => ∃ x y, [v, w] = [x, y] ∧ G x y H := fun H l => ⟨v, w, rfl, k H l⟩
theorem t_drop (k : Tr L fun H => te σ H fun _ H1 => D.nx σ H1) : Tr L fun H => tDrop te D σ H := k
theorem t_ret (k : Tr L fun H => te σ H D.rt) : Tr L fun H => tRet te D σ H := k
theorem t_retN (k : Tr L fun H => D.rt .non H) : Tr L fun H => tRetN D σ H := k
theorem t_if (k : Tr L fun H => t σ H fun b H1 => if b = true then s1 D σ H1 else s2 D σ H1) : Tr L fun H => tIfS t s1 s2 D σ H := k
theorem t_sub {to ti : TE} {ts : TSet} {Qn : SS → Hp → Prop} (k : Tr L fun H => to σ H fun o H1 => ti σ H1 fun i H2 => ts o i v H2 fun H3 => Qn σ H3) : Tr L fun H => gSub to ti ts v σ H Qn := k
theorem t_setL {m : Int} {j : Nat} (hp : Pick p (.lst xs) L R) (hj : ixN xs.length m = some j) (k : Tr ((p, .lst (xs.set j v)) :: R) G) : Tr L fun H => rSetL (.ref p) (.int m) v H G :=
  fun H l => ⟨p, xs, m, j, rfl, rfl, l.get hp, hj, k _ (l.pick hp).put⟩
theorem t_tupG {n : Nat} {gs : TGs} {Qn : SS → Hp → Prop} (hp : Pick a (.tup xs) L R) (hn : xs.length = n) (k : Tr L fun H => gs xs σ H Qn) : Tr L fun H => gTup K n gs (.ref a) σ H Qn := fun H l => ⟨a, xs, rfl, sqT hp l, hn, k H l⟩
theorem t_consG {gs : TGs} {Qn : SS → Hp → Prop} (k : Tr L fun H => g v σ H fun σ1 H1 => gs xs σ1 H1 Qn) : Tr L fun H => gCons g gs (v :: xs) σ H Qn := fun H l => ⟨v, xs, rfl, k H l⟩
theorem t_nilG {Qn : SS → Hp → Prop} (k : Tr L fun H => Qn σ H) : Tr L fun H => gNil [] σ H Qn := fun H l => ⟨rfl, k H l⟩
/-! ### where one goes on -/
theorem t_nx {f b c : SS → Hp → Prop} {r : VK} (k : Tr L fun H => f σ H) : Tr L fun H => (Ends.mk f r b c).nx σ H := k
theorem t_rt {f b c : SS → Hp → Prop} {r : VK} (k : Tr L fun H => r v H) : Tr L fun H => (Ends.mk f r b c).rt v H := k
theorem t_bk {f b c : SS → Hp → Prop} {r : VK} (k : Tr L fun H => b σ H) : Tr L fun H => (Ends.mk f r b c).bk σ H := k
theorem t_ct {f b c : SS → Hp → Prop} {r : VK} (k : Tr L fun H => c σ H) : Tr L fun H => (Ends.mk f r b c).ct σ H := k
end

/-! ### what is walked -/
/-- n turns; at turn i the value v with val i v L', L' what is made for it -/
structure Wk (J : It) (n : Nat) (val : Nat → V → Lg → Prop) (Src : Lg → Prop) : Prop where
  go : ∀ L H i, Src L → Led H L → i < n → J.go i H
  yld : ∀ L H i v H', Src L → Led H L → i < n → J.yld i H v H' → ∃ L', val i v L' ∧ Led H' (L' ++ L)
  stop : ∀ L H, Src L → Led H L → J.stop n H
section
variable {K : PySem.W.Frag}
/-- the ledger reads a as the list xs -/
def InL (a : Addr) (xs : List V) (L : Lg) : Prop := ∃ R, Pick a (.lst xs) L R
theorem InL.sq {a : Addr} {xs : List V} {L : Lg} {H : Hp} (h : InL a xs L) (l : Led H L) : SqL K H a xs := let ⟨_, p⟩ := h; sqL p l
theorem led_sq_inj {H : Hp} {a : Addr} {xs ys : List V} (h : H a = some (.lst xs)) (h' : SqL K H a ys) (hk : K.lookup a = none) : ys = xs := by
  rcases h' with (h' | ⟨o, h'⟩) | ⟨o, its, n, hl, _⟩
  · rw [h] at h'; cases h'; rfl
  · rw [h] at h'; cases h'
  · rw [hk] at hl; cases hl
theorem wk_list {a : Addr} {xs : List V} : Wk (Itl K a) xs.length (fun i v L' => xs[i]? = some v ∧ L' = []) (InL a xs) where
  go := fun L H i hs l hi => ⟨xs, xs[i], hs.sq l, by simp [hi]⟩
  yld := fun L H i v H' hs l hi hy => ⟨[], ⟨hy.2 xs (hs.sq l), rfl⟩, by rw [hy.1]; exact l⟩
  stop := fun L H hs l => ⟨xs, hs.sq l, Nat.le_refl _⟩
def InT (a : Addr) (xs : List V) (L : Lg) : Prop := ∃ R, Pick a (.tup xs) L R
theorem InT.sq {a : Addr} {xs : List V} {L : Lg} {H : Hp} (h : InT a xs L) (l : Led H L) : SqT K H a xs := let ⟨_, p⟩ := h; sqT p l
theorem wk_tup {a : Addr} {xs : List V} : Wk (Itt K a) xs.length (fun i v L' => xs[i]? = some v ∧ L' = []) (InT a xs) where
  go := fun L H i hs l hi => ⟨xs, xs[i], hs.sq l, by simp [hi]⟩
  yld := fun L H i v H' hs l hi hy => ⟨[], ⟨hy.2 xs (hs.sq l), rfl⟩, by rw [hy.1]; exact l⟩
  stop := fun L H hs l => ⟨xs, hs.sq l, Nat.le_refl _⟩
theorem wk_range {lo : Int} {n : Nat} : Wk (Itr lo n) n (fun i v L' => v = .int (lo + i) ∧ L' = []) (fun _ => True) where
  go := fun L H i _ _ hi => hi
  yld := fun L H i v H' _ l hi hy => ⟨[], ⟨hy.2, rfl⟩, by rw [hy.1]; exact l⟩
  stop := fun L H _ _ => Nat.le_refl n
theorem wk_range3 {lo c : Int} {n : Nat} : Wk (Itc lo c n) n (fun i v L' => v = .int (lo + i * c) ∧ L' = []) (fun _ => True) where
  go := fun L H i _ _ hi => hi
  yld := fun L H i v H' _ l hi hy => ⟨[], ⟨hy.2, rfl⟩, by rw [hy.1]; exact l⟩
  stop := fun L H _ _ => Nat.le_refl n
theorem wk_str {z : Str} : Wk (Its z) z.cps.size (fun i v L' => (∃ c, z.cps[i]? = some c ∧ v = .str ⟨#[c]⟩) ∧ L' = []) (fun _ => True) where
  go := fun L H i _ _ hi => hi
  yld := fun L H i v H' _ l hi hy => ⟨[], ⟨hy.2, rfl⟩, by rw [hy.1]; exact l⟩
  stop := fun L H _ _ => Nat.le_refl _
theorem wk_enum {a : Addr} {xs : List V} : Wk (Ite K a) xs.length (fun i v L' => ∃ T x, v = .ref T ∧ xs[i]? = some x ∧ L' = [(T, .tup [.int (i : Nat), x])]) (InL a xs) where
  go := fun L H i hs l hi => ⟨xs, xs[i], hs.sq l, by simp [hi]⟩
  yld := fun L H i v H' hs l hi hy => by
    obtain ⟨T, x, e, n, eH, q⟩ := hy
    exact ⟨_, ⟨T, x, e, q xs (hs.sq l), rfl⟩, by rw [eH]; exact l.new n⟩
  stop := fun L H hs l => ⟨xs, hs.sq l, Nat.le_refl _⟩
theorem wk_zip {a b : Addr} {xs ys : List V} : Wk (Itz K a b) (min xs.length ys.length) (fun i v L' => ∃ T x y, v = .ref T ∧ xs[i]? = some x ∧ ys[i]? = some y ∧ L' = [(T, .tup [x, y])]) (fun L => InL a xs L ∧ InL b ys L) where
  go := fun L H i hs l hi => by
    have h1 : i < xs.length := by omega
    have h2 : i < ys.length := by omega
    exact ⟨xs, ys, xs[i], ys[i], hs.1.sq l, hs.2.sq l, by simp [h1], by simp [h2]⟩
  yld := fun L H i v H' hs l hi hy => by
    obtain ⟨T, x, y, e, n, eH, q1, q2⟩ := hy
    exact ⟨_, ⟨T, x, y, e, q1 xs (hs.1.sq l), q2 ys (hs.2.sq l), rfl⟩, by rw [eH]; exact l.new n⟩
  stop := fun L H hs l => ⟨xs, ys, hs.1.sq l, hs.2.sq l, by omega⟩
end

section
variable {K : PySem.W.Frag}
theorem wk_zipT {a b : Addr} {xs ys : List V} : Wk (ItzT K a b) (min xs.length ys.length) (fun i v L' => ∃ T x y, v = .ref T ∧ xs[i]? = some x ∧ ys[i]? = some y ∧ L' = [(T, .tup [x, y])]) (fun L => InT a xs L ∧ InT b ys L) where
  go := fun L H i hs l hi => by
    have h1 : i < xs.length := by omega
    have h2 : i < ys.length := by omega
    exact ⟨xs, ys, xs[i], ys[i], hs.1.sq l, hs.2.sq l, by simp [h1], by simp [h2]⟩
  yld := fun L H i v H' hs l hi hy => by
    obtain ⟨T, x, y, e, n, eH, q1, q2⟩ := hy
    exact ⟨_, ⟨T, x, y, e, q1 xs (hs.1.sq l), q2 ys (hs.2.sq l), rfl⟩, by rw [eH]; exact l.new n⟩
  stop := fun L H hs l => ⟨xs, ys, hs.1.sq l, hs.2.sq l, by omega⟩
end
/-! ### for -/
section
variable {L : Lg} {σ : SS} {K : PySem.W.Frag} {te : TE} {tr : TA} {wi : TI} {g : TG} {tb : TS} {D : Ends}
def forK (g : TG) (tb : TS) (D : Ends) (σ : SS) (J : It) (H1 : Hp) : Prop := ∃ W : Nat → Nat → SS → Hp → Prop, (∃ m, W 0 m σ H1) ∧ ∀ i m σ H, W i m σ H →
  (J.stop i H ∧ D.nx σ H) ∨ (J.go i H ∧ ∃ N : SS → Hp → Prop, (∀ σ' H', N σ' H' → ∃ m', m' < m ∧ W (i + 1) m' σ' H') ∧ ∀ x H', J.yld i H x H' → g x σ H' fun σ2 H2 => tb { D with nx := N, ct := N, bk := D.nx } σ2 H2)
theorem t_for (k : Tr L fun H => wi σ H (forK g tb D σ)) : Tr L fun H => tFor wi g tb D σ H := k
/-- the state at a turn's end -/
def Pst {α : Type} (S : Nat → α → SS) (M : Nat → α → Lg) (I : Nat → α → Prop) (i : Nat) (σ : SS) (H : Hp) : Prop := ∃ y, I i y ∧ σ = S i y ∧ Led H (M i y)
theorem t_pst {α : Type} {S : Nat → α → SS} {M : Nat → α → Lg} {I : Nat → α → Prop} {i : Nat} (y : α) (hI : I i y) (hσ : σ = S i y) (hM : Sub L (M i y)) : Tr L fun H => Pst S M I i σ H := fun H l => ⟨y, hI, hσ, l.sub hM⟩
theorem t_forK {α : Type} {J : It} {n : Nat} {val : Nat → V → Lg → Prop} {Src : Lg → Prop} (wk : Wk J n val Src) (S : Nat → α → SS) (M : Nat → α → Lg) (I : Nat → α → Prop)
    (h0 : ∃ y, I 0 y ∧ σ = S 0 y ∧ Sub L (M 0 y)) (hsrc : ∀ i y, I i y → Src (M i y))
    (hs : ∀ i y v L', i < n → I i y → val i v L' → Tr (L' ++ M i y) fun H => g v (S i y) H fun σ2 H2 => tb { D with nx := Pst S M I (i + 1), ct := Pst S M I (i + 1), bk := D.nx } σ2 H2)
    (hd : ∀ y, I n y → Tr (M n y) fun H => D.nx (S n y) H) : Tr L fun H => forK g tb D σ J H := by
  intro H l
  obtain ⟨y0, i0, e0, s0⟩ := h0
  refine ⟨fun i m σ' H' => m = n - i ∧ i ≤ n ∧ Pst S M I i σ' H', ⟨n, by simp, Nat.zero_le _, y0, i0, e0, l.sub s0⟩, ?_⟩
  rintro i m σ' H' ⟨rfl, hi, y, iy, rfl, ly⟩
  by_cases h : i < n
  · refine .inr ⟨wk.go _ _ i (hsrc i y iy) ly h, Pst S M I (i + 1), fun σ2 H2 p => ⟨n - (i + 1), by omega, rfl, h, p⟩, fun v H2 yl => ?_⟩
    obtain ⟨L', hv, l'⟩ := wk.yld _ _ i v H2 (hsrc i y iy) ly h yl
    exact hs i y v L' h iy hv H2 l'
  · obtain rfl : i = n := by omega
    exact .inl ⟨wk.stop _ _ (hsrc i y iy) ly, hd y iy H' ly⟩
/-- the walked things -/
def itL (K : PySem.W.Frag) (x : V) (H : Hp) (R : It → Hp → Prop) : Prop := ∃ a, x = .ref a ∧ (∃ xs, SqL K H a xs) ∧ R (Itl K a) H
def itT (K : PySem.W.Frag) (x : V) (H : Hp) (R : It → Hp → Prop) : Prop := ∃ a, x = .ref a ∧ (∃ xs, SqT K H a xs) ∧ R (Itt K a) H
def itR1 (vs : List V) (H : Hp) (R : It → Hp → Prop) : Prop := ∃ j : Int, vs = [.int j] ∧ -(2 ^ 62) ≤ j ∧ j < 2 ^ 62 ∧ R (Itr 0 j.toNat) H
def itR2 (vs : List V) (H : Hp) (R : It → Hp → Prop) : Prop := ∃ i j : Int, vs = [.int i, .int j] ∧ (-(2 ^ 62) ≤ i ∧ i < 2 ^ 62 ∧ -(2 ^ 62) ≤ j ∧ j < 2 ^ 62) ∧ R (Itr i (j - i).toNat) H
def itR3 (vs : List V) (H : Hp) (R : It → Hp → Prop) : Prop := ∃ (i j c : Int) (n : Nat), vs = [.int i, .int j, .int c] ∧ RgC i j c n ∧ R (Itc i c n) H
def itE (K : PySem.W.Frag) (vs : List V) (H : Hp) (R : It → Hp → Prop) : Prop := ∃ a xs, vs = [.ref a] ∧ SqL K H a xs ∧ R (Ite K a) H
def itZ (K : PySem.W.Frag) (vs : List V) (H : Hp) (R : It → Hp → Prop) : Prop := ∃ a b xs ys, vs = [.ref a, .ref b] ∧ SqL K H a xs ∧ SqL K H b ys ∧ R (Itz K a b) H
def itS (x : V) (H : Hp) (R : It → Hp → Prop) : Prop := ∃ z, x = .str z ∧ R (Its z) H
def itZA (K : PySem.W.Frag) (vs : List V) (H : Hp) (R : It → Hp → Prop) : Prop := ∃ a b xs ys, vs = [.ref a, .ref b] ∧ ((SqL K H a xs ∧ SqL K H b ys ∧ R (Itz K a b) H) ∨ (SqT K H a xs ∧ SqT K H b ys ∧ R (ItzT K a b) H))
variable {RJ : It → Hp → Prop}
theorem t_iZA (k : Tr L fun H => tr σ H fun x H1 => itZA K x H1 RJ) : Tr L fun H => iZipA K tr σ H RJ := k
theorem t_iL (k : Tr L fun H => te σ H fun x H1 => itL K x H1 RJ) : Tr L fun H => iList K te σ H RJ := k
theorem t_iT (k : Tr L fun H => te σ H fun x H1 => itT K x H1 RJ) : Tr L fun H => iTup K te σ H RJ := k
theorem t_iR1 (k : Tr L fun H => tr σ H fun x H1 => itR1 x H1 RJ) : Tr L fun H => iRng1 tr σ H RJ := k
theorem t_iR2 (k : Tr L fun H => tr σ H fun x H1 => itR2 x H1 RJ) : Tr L fun H => iRng2 tr σ H RJ := k
theorem t_iR3 (k : Tr L fun H => tr σ H fun x H1 => itR3 x H1 RJ) : Tr L fun H => iRng3 tr σ H RJ := k
theorem t_iE (k : Tr L fun H => tr σ H fun x H1 => itE K x H1 RJ) : Tr L fun H => iEnum K tr σ H RJ := k
theorem t_iZ (k : Tr L fun H => tr σ H fun x H1 => itZ K x H1 RJ) : Tr L fun H => iZip K tr σ H RJ := k
theorem t_iS (k : Tr L fun H => te σ H fun x H1 => itS x H1 RJ) : Tr L fun H => iStr te σ H RJ := k
variable {R R' : Lg} {a b : Addr} {xs ys : List V}
theorem t_itL (hp : Pick a (.lst xs) L R) (k : Tr L fun H => RJ (Itl K a) H) : Tr L fun H => itL K (.ref a) H RJ := fun H l => ⟨a, rfl, ⟨xs, sqL hp l⟩, k H l⟩
theorem t_itT (hp : Pick a (.tup xs) L R) (k : Tr L fun H => RJ (Itt K a) H) : Tr L fun H => itT K (.ref a) H RJ := fun H l => ⟨a, rfl, ⟨xs, sqT hp l⟩, k H l⟩
theorem t_itR1 {j : Int} (h1 : -(2 ^ 62) ≤ j) (h2 : j < 2 ^ 62) (k : Tr L fun H => RJ (Itr 0 j.toNat) H) : Tr L fun H => itR1 [.int j] H RJ := fun H l => ⟨j, rfl, h1, h2, k H l⟩
theorem t_itR2 {i j : Int} (h1 : -(2 ^ 62) ≤ i ∧ i < 2 ^ 62 ∧ -(2 ^ 62) ≤ j ∧ j < 2 ^ 62) (k : Tr L fun H => RJ (Itr i (j - i).toNat) H) : Tr L fun H => itR2 [.int i, .int j] H RJ := fun H l => ⟨i, j, rfl, h1, k H l⟩
theorem t_itR3 {i j c : Int} {n : Nat} (h1 : RgC i j c n) (k : Tr L fun H => RJ (Itc i c n) H) : Tr L fun H => itR3 [.int i, .int j, .int c] H RJ := fun H l => ⟨i, j, c, n, rfl, h1, k H l⟩
theorem t_itE (hp : Pick a (.lst xs) L R) (k : Tr L fun H => RJ (Ite K a) H) : Tr L fun H => itE K [.ref a] H RJ := fun H l => ⟨a, xs, rfl, sqL hp l, k H l⟩
theorem t_itZ (hp : Pick a (.lst xs) L R) (hq : Pick b (.lst ys) L R') (k : Tr L fun H => RJ (Itz K a b) H) : Tr L fun H => itZ K [.ref a, .ref b] H RJ := fun H l => ⟨a, b, xs, ys, rfl, sqL hp l, sqL hq l, k H l⟩
theorem t_itZL (hp : Pick a (.lst xs) L R) (hq : Pick b (.lst ys) L R') (k : Tr L fun H => RJ (Itz K a b) H) : Tr L fun H => itZA K [.ref a, .ref b] H RJ := fun H l => ⟨a, b, xs, ys, rfl, .inl ⟨sqL hp l, sqL hq l, k H l⟩⟩
theorem t_itZT (hp : Pick a (.tup xs) L R) (hq : Pick b (.tup ys) L R') (k : Tr L fun H => RJ (ItzT K a b) H) : Tr L fun H => itZA K [.ref a, .ref b] H RJ := fun H l => ⟨a, b, xs, ys, rfl, .inr ⟨sqT hp l, sqT hq l, k H l⟩⟩
theorem t_itS {z : Str} (k : Tr L fun H => RJ (Its z) H) : Tr L fun H => itS (.str z) H RJ := fun H l => ⟨z, rfl, k H l⟩
theorem t_nxP {α : Type} {S : Nat → α → SS} {M : Nat → α → Lg} {I : Nat → α → Prop} {i : Nat} {r : VK} {b c : SS → Hp → Prop} (k : Tr L fun H => Pst S M I i σ H) : Tr L fun H => Ends.nx ⟨Pst S M I i, r, b, c⟩ σ H := k
theorem t_ctP {α : Type} {S : Nat → α → SS} {M : Nat → α → Lg} {I : Nat → α → Prop} {i : Nat} {r : VK} {f b : SS → Hp → Prop} (k : Tr L fun H => Pst S M I i σ H) : Tr L fun H => Ends.ct ⟨f, r, b, Pst S M I i⟩ σ H := k
/-! ### while -/
/-- the state at the end of a while's turn -/
def Wst {α : Type} (S : α → SS) (M : α → Lg) (I : α → Prop) (μ : α → Nat) (n : Nat) (σ : SS) (H : Hp) : Prop := ∃ z, I z ∧ μ z < n ∧ σ = S z ∧ Led H (M z)
theorem t_nxW {α : Type} {S : α → SS} {M : α → Lg} {I : α → Prop} {μ : α → Nat} {n : Nat} {r : VK} {b c : SS → Hp → Prop} (k : Tr L fun H => Wst S M I μ n σ H) : Tr L fun H => Ends.nx ⟨Wst S M I μ n, r, b, c⟩ σ H := k
theorem t_ctW {α : Type} {S : α → SS} {M : α → Lg} {I : α → Prop} {μ : α → Nat} {n : Nat} {r : VK} {f b : SS → Hp → Prop} (k : Tr L fun H => Wst S M I μ n σ H) : Tr L fun H => Ends.ct ⟨f, r, b, Wst S M I μ n⟩ σ H := k
theorem t_while {α : Type} {tc : TT} (S : α → SS) (M : α → Lg) (I : α → Prop) (μ : α → Nat) (h0 : ∃ y, I y ∧ σ = S y ∧ Sub L (M y))
    (hs : ∀ y, I y → ∃ b, (∀ QB : Bool → Hp → Prop, Tr (M y) (fun H => QB b H) → Tr (M y) fun H => tc (S y) H QB) ∧
      (b = true → Tr (M y) fun H => tb { D with nx := Wst S M I μ (μ y), ct := Wst S M I μ (μ y), bk := D.nx } (S y) H) ∧
      (b = false → Tr (M y) fun H => D.nx (S y) H)) : Tr L fun H => tWhile tc tb D σ H := by
  intro H l
  obtain ⟨y0, i0, e0, s0⟩ := h0
  refine ⟨fun m σ' H' => ∃ y, m = μ y ∧ I y ∧ σ' = S y ∧ Led H' (M y), ⟨μ y0, y0, rfl, i0, e0, l.sub s0⟩, ?_⟩
  rintro m σ' H' ⟨y, rfl, iy, rfl, ly⟩
  obtain ⟨b, h1, h2, h3⟩ := hs y iy
  refine h1 _ (fun H2 l2 => ?_) H' ly
  cases b with
  | true =>
    rw [if_pos rfl]
    exact ⟨_, fun σ3 H3 ⟨z, iz, lt, e, lz⟩ => ⟨μ z, lt, z, rfl, iz, e, lz⟩, h2 rfl H2 l2⟩
  | false =>
    rw [if_neg Bool.false_ne_true]
    exact h3 rfl H2 l2
theorem t_whl {α : Type} {S : α → SS} {M : α → Lg} {I : α → Prop} {μ : α → Nat} {n : Nat} (y : α) (hI : I y) (hm : μ y < n) (hσ : σ = S y) (hM : Sub L (M y)) : Tr L fun H => Wst S M I μ n σ H :=
  fun H l => ⟨y, hI, hm, hσ, l.sub hM⟩
end

/-! ### list comprehensions -/
section
variable {L : Lg} {σ σ0 : SS} {K : PySem.W.Frag} {wi : TI} {g : TG} {tt : TT} {te : TE} {vs : List Nat} {Q : VK}
def lcK (g : TG) (tt : TT) (te : TE) (vs : List Nat) (σ : SS) (Q : VK) (J : It) (H1 : Hp) : Prop := ∀ D, H1 D = none → ∃ W : Nat → Nat → Hp → Prop, (∃ m, W 0 m (upd H1 D (.lst []))) ∧ ∀ i m H, W i m H →
  (J.stop i H ∧ Q (.ref D) H) ∨ (J.go i H ∧ ∃ Nx : Hp → Prop, (∀ H', Nx H' → ∃ m', m' < m ∧ W (i + 1) m' H') ∧ ∀ x H', J.yld i H x H' → g x (wipe σ vs) H' fun σ2 H2 => wipe σ2 vs = wipe σ vs ∧ tt σ2 H2 fun b H3 =>
    if b = true then te σ2 H3 fun y H4 => ∃ acc, H4 D = some (.lst acc) ∧ acc.length < sizeLine ∧ Nx (upd H4 D (.lst (acc ++ [y]))) else Nx H3)
theorem t_lc (k : Tr L fun H => wi σ H (lcK g tt te vs σ Q)) : Tr L fun H => tLc wi g tt te vs σ H Q := k
/-- an item is added to the new list -/
def lcAdd (D : Addr) (N : Hp → Prop) (y : V) (H : Hp) : Prop := ∃ acc, H D = some (.lst acc) ∧ acc.length < sizeLine ∧ N (upd H D (.lst (acc ++ [y])))
def lcNx {α : Type} (M : Nat → α → Lg) (out : Nat → α → List V) (I : Nat → α → Prop) (D : Addr) (i : Nat) (H : Hp) : Prop := ∃ y, I i y ∧ Led H ((D, .lst (out i y)) :: M i y)
theorem t_lcAdd {α : Type} {M : Nat → α → Lg} {out : Nat → α → List V} {I : Nat → α → Prop} {D : Addr} {i : Nat} {acc : List V} {R : Lg} {v : V} (y : α) (hI : I i y) (hp : Pick D (.lst acc) L R) (hz : acc.length < sizeLine)
    (he : acc ++ [v] = out i y) (hM : Sub R (M i y)) : Tr L fun H => lcAdd D (lcNx M out I D i) v H := fun H l => by
  refine ⟨acc, l.get hp, hz, y, hI, ?_⟩
  rw [he]
  have l2 := (l.pick hp).put (o' := .lst (out i y))
  exact l2.sub (.take .head hM)
theorem t_lcSkip {α : Type} {M : Nat → α → Lg} {out : Nat → α → List V} {I : Nat → α → Prop} {D : Addr} {i : Nat} (y : α) (hI : I i y) (hM : Sub L ((D, .lst (out i y)) :: M i y)) : Tr L fun H => lcNx M out I D i H := fun H l => ⟨y, hI, l.sub hM⟩
theorem t_lcK {α : Type} {J : It} {n : Nat} {val : Nat → V → Lg → Prop} {Src : Lg → Prop} (wk : Wk J n val Src) (hw : wipe σ vs = σ0) (M : Nat → α → Lg) (out : Nat → α → List V) (I : Nat → α → Prop)
    (h0 : ∃ y, I 0 y ∧ out 0 y = [] ∧ Sub L (M 0 y)) (hsrc : ∀ D i y, I i y → Src ((D, .lst (out i y)) :: M i y))
    (hs : ∀ D i y v L', i < n → I i y → val i v L' → Tr (L' ++ (D, .lst (out i y)) :: M i y) fun H => g v σ0 H fun σ2 H2 => wipe σ2 vs = σ0 ∧ tt σ2 H2 fun b H3 =>
      if b = true then te σ2 H3 (lcAdd D (lcNx M out I D (i + 1))) else lcNx M out I D (i + 1) H3)
    (hd : ∀ D y, I n y → Tr ((D, .lst (out n y)) :: M n y) fun H => Q (.ref D) H) : Tr L fun H => lcK g tt te vs σ Q J H := by
  intro H l D hD
  obtain ⟨y0, i0, e0, s0⟩ := h0
  have start : lcNx M out I D 0 (upd H D (.lst [])) := ⟨y0, i0, by rw [e0]; exact (l.new hD).sub (.take .head s0)⟩
  refine ⟨fun i m H' => m = n - i ∧ i ≤ n ∧ lcNx M out I D i H', ⟨n, by simp, Nat.zero_le _, start⟩, ?_⟩
  rintro i m H' ⟨rfl, hi, y, iy, ly⟩
  by_cases h : i < n
  · refine .inr ⟨wk.go _ _ i (hsrc D i y iy) ly h, lcNx M out I D (i + 1), fun H2 p => ⟨n - (i + 1), by omega, rfl, h, p⟩, fun v H2 yl => ?_⟩
    obtain ⟨L', hv, l'⟩ := wk.yld _ _ i v H2 (hsrc D i y iy) ly h yl
    rw [hw]
    exact hs D i y v L' h iy hv H2 l'
  · obtain rfl : i = n := by omega
    exact .inl ⟨wk.stop _ _ (hsrc D i y iy) ly, hd D y iy H' ly⟩
theorem t_wiped {G : Hp → Prop} {σ2 : SS} (hw : wipe σ2 vs = σ0) (k : Tr L G) : Tr L fun H => wipe σ2 vs = σ0 ∧ G H := fun H l => ⟨hw, k H l⟩
theorem t_yes {QB : Bool → Hp → Prop} (k : Tr L fun H => QB true H) : Tr L fun H => tYes σ H QB := k
end
end Hz
namespace Hz
open PySem PySem.Spec PyProof.Rows L2 RZ
/-- the slot i of σ holds v -/
inductive GetAt : SS → Nat → V → Prop where
  | zero {v : V} {r : SS} : GetAt (some v :: r) 0 v
  | succ {i : Nat} {v : V} {y : Option V} {r : SS} : GetAt r i v → GetAt (y :: r) (i + 1) v
theorem GetAt.eq {σ : SS} {i : Nat} {v : V} (h : GetAt σ i v) : σ[i]? = some (some v) := by
  induction h with
  | zero => rfl
  | succ _ ih => rw [List.getElem?_cons_succ, ih]
section
variable {L R : Lg} {σ σ' : SS} {Q : VK} {te : TE} {D : Ends} {v x : V} {i : Nat}
theorem t_varA (h : GetAt σ i v) (k : Tr L fun H => Q v H) : Tr L fun H => tVar i σ H Q := t_var h.eq k
theorem t_augA {ti : TIp} (h : GetAt σ i x) (k : Tr L fun H => te σ H fun y H1 => ti x y H1 fun z H2 => gName i z σ H2 D.nx) : Tr L fun H => tAug i te ti D σ H := t_aug h.eq k
end
end Hz

/-! Hz, rules with readings that bear a name. -/
namespace Hz
open PySem PySem.Spec PyProof.Rows L2 RZ
/-! ### the module's names -/
/-- a constant of the module -/
def GV (mg : Str → Option Value) (x : Str) (v : V) : Prop := ∃ u, mg x = some u ∧ RelV v u
section
variable {X : Cx}
theorem pe_gv {x : Str} {v : V} {pos : Pos} (h : GV X.mg x v) (hg : Gl X x := by rfl) (hd : (x == ("__debug__" : Str)) = false := by decide) (hc : (x == ("__classdict__" : Str)) = false := by decide) : PE X (.Name x pos) (tC v) := by
  obtain ⟨u, hm, r⟩ := h
  exact pe_glob hg hm r hd
/-! ### numbers -/
def cPow (i j : Int) : Prop := 0 ≤ j ∧ (Builtin.Int.intBits i : Int) * j ≤ 2 ^ 27
theorem op_powW : OpR X (binaryOp .Pow) (rI cPow fun i j => .int (i ^ j.toNat)) := opI fun _ _ _ _ _ _ _ hc q => pow_int hc.1 hc.2 q
def cMul (i j : Int) : Prop := (-(2 ^ 64) < i ∧ i < 2 ^ 64) ∨ (-(2 ^ 64) < j ∧ j < 2 ^ 64) ∨ CMulW i j
theorem op_mulA : OpR X (binaryOp .Mult) (rI cMul fun i j => .int (i * j)) := opI fun _ _ _ _ _ _ _ hc q => by
  rcases hc with h | h | h
  · exact mul_int q (CMul.ok (.inl h))
  · exact mul_int q (CMul.ok (.inr h))
  · exact mul_int q h.ok
def rMax2 : List V → Hp → VK → Prop := fun xs H Q => ∃ i j, xs = [.int i, .int j] ∧ Q (.int (max i j)) H
def rMin2 : List V → Hp → VK → Prop := fun xs H Q => ∃ i j, xs = [.int i, .int j] ∧ Q (.int (min i j)) H
theorem max_ite (i j : Int) : (if j > i then j else i) = max i j := by split <;> omega
theorem min_ite (i j : Int) : (if j < i then j else i) = min i j := by split <;> omega
theorem c_max2 (hc : X.calm = true) : CallR X (.builtin "max") rMax2 := fun pins s σ H xs us Q I r ⟨i, j, e, q⟩ => call_max2 hc pins s σ H xs us Q I r ⟨i, j, e, by rw [max_ite]; exact q⟩
theorem c_min2 (hc : X.calm = true) : CallR X (.builtin "min") rMin2 := fun pins s σ H xs us Q I r ⟨i, j, e, q⟩ => call_min2 hc pins s σ H xs us Q I r ⟨i, j, e, by rw [min_ite]; exact q⟩
def rInt : List V → Hp → VK → Prop := fun xs H Q => (∃ i, xs = [.int i] ∧ Q (.int i) H) ∨ ∃ k, xs = [.bl k] ∧ Q (.int (if k then 1 else 0)) H
theorem c_int : CallR X (.type "int") rInt := call_int1
/-! ### len, isinstance, list(..), tuple(..) -/
def rLen (K : PySem.W.Frag) : List V → Hp → VK → Prop := fun xs H Q => ∃ x n, xs = [x] ∧ LenV K x H n ∧ Q (.int n) H
theorem c_len : CallR X (.builtin "len") (rLen X.K) := call_len
def rIs (K : PySem.W.Frag) : List V → Hp → VK → Prop := fun xs H Q => ∃ (x c : V) (t u : Value) (b : Bool), xs = [x, c] ∧ ClsV c u ∧ TyX K H x t ∧ PySem.W.kitOne K t u = some b ∧ Q (.bl b) H
theorem c_is : CallR X (.builtin "isinstance") (rIs X.K) := call_isi
def rIsT (K : PySem.W.Frag) : List V → Hp → VK → Prop := fun xs H Q => ∃ (x : V) (tp : Addr) (cs : List V) (t : Value) (us : List Value) (b : Bool), xs = [x, .ref tp] ∧ H tp = some (.tup cs) ∧ Paired ClsV cs us ∧ TyX K H x t ∧ PySem.W.kitAny K t us = some b ∧ Q (.bl b) H
theorem c_isT : CallR X (.builtin "isinstance") (rIsT X.K) := call_isiT
def rList (K : PySem.W.Frag) : List V → Hp → VK → Prop := fun xs H Q => ∃ p ys, xs = [.ref p] ∧ (SqL K H p ys ∨ SqT K H p ys) ∧ ∀ l, H l = none → Q (.ref l) (upd H l (.lst ys))
theorem c_list : CallR X (.type "list") (rList X.K) := call_list_of
def rTuple (K : PySem.W.Frag) : List V → Hp → VK → Prop := fun xs H Q => ∃ p ys, xs = [.ref p] ∧ ((SqL K H p ys ∧ ∀ l, H l = none → Q (.ref l) (upd H l (.tup ys))) ∨ (SqT K H p ys ∧ Q (.ref p) H))
theorem c_tuple : CallR X (.type "tuple") (rTuple X.K) := call_tuple_of
end
/-! ### their steps -/
section
variable {L R : Lg} {Q : VK} {K : PySem.W.Frag} {a p : Addr} {xs : List V} {σ : SS}
theorem t_max2 {i j : Int} (k : Tr L fun H => Q (.int (max i j)) H) : Tr L fun H => rMax2 [.int i, .int j] H Q := fun H l => ⟨i, j, rfl, k H l⟩
theorem t_min2 {i j : Int} (k : Tr L fun H => Q (.int (min i j)) H) : Tr L fun H => rMin2 [.int i, .int j] H Q := fun H l => ⟨i, j, rfl, k H l⟩
theorem t_intB {b : Bool} (k : Tr L fun H => Q (.int (if b then 1 else 0)) H) : Tr L fun H => rInt [.bl b] H Q := fun H l => .inr ⟨b, rfl, k H l⟩
theorem t_intI {i : Int} (k : Tr L fun H => Q (.int i) H) : Tr L fun H => rInt [.int i] H Q := fun H l => .inl ⟨i, rfl, k H l⟩
theorem t_lenL (hp : Pick p (.lst xs) L R) (k : Tr L fun H => Q (.int xs.length) H) : Tr L fun H => rLen K [.ref p] H Q := fun H l => ⟨_, _, rfl, .inl ⟨xs, sqL hp l, rfl⟩, k H l⟩
theorem t_lenT (hp : Pick p (.tup xs) L R) (k : Tr L fun H => Q (.int xs.length) H) : Tr L fun H => rLen K [.ref p] H Q := fun H l => ⟨_, _, rfl, .inr ⟨xs, sqT hp l, rfl⟩, k H l⟩
theorem t_lenS {z : Str} (hz : z.length ≤ sizeLine) (k : Tr L fun H => Q (.int z.length) H) : Tr L fun H => rLen K [.str z] H Q := fun H l => ⟨_, _, rfl, ⟨hz, rfl⟩, k H l⟩
/-- the type's name of a value that is no object -/
def tyN : V → String
  | .non => "NoneType"
  | .bl _ => "bool"
  | .int _ => "int"
  | .str _ => "str"
  | .byt _ => "bytes"
  | .flt _ => "float"
  | _ => "?"
theorem tyN_of {x : V} {H : Hp} (h : (tyN x == "?") = false) : TyX K H x (.type (tyN x)) := by
  cases x with
  | non => exact .base .non
  | bl b => exact .base (.bl b)
  | int i => exact .base (.int i)
  | str z => exact .base (.str z)
  | byt b => exact .byt b
  | flt b => exact .base (.flt b)
  | ref a => cases h
  | ty n => cases h
theorem t_isV {x : V} {C : String} {b : Bool} (hn : (tyN x == "?") = false) (hb : kitB (tyN x) C = some b) (k : Tr L fun H => Q (.bl b) H) : Tr L fun H => rIs K [x, .ty C] H Q :=
  fun H l => ⟨x, .ty C, _, _, b, rfl, .ty C, tyN_of hn, kit_ty hb, k H l⟩
theorem t_isL {C : String} {b : Bool} (hp : Pick p (.lst xs) L R) (hb : kitB "list" C = some b) (k : Tr L fun H => Q (.bl b) H) : Tr L fun H => rIs K [.ref p, .ty C] H Q :=
  fun H l => ⟨_, .ty C, _, _, b, rfl, .ty C, .base (.lst (l.get hp)), kit_ty hb, k H l⟩
theorem t_isT {C : String} {b : Bool} (hp : Pick p (.tup xs) L R) (hb : kitB "tuple" C = some b) (k : Tr L fun H => Q (.bl b) H) : Tr L fun H => rIs K [.ref p, .ty C] H Q :=
  fun H l => ⟨_, .ty C, _, _, b, rfl, .ty C, .base (.tup (l.get hp)), kit_ty hb, k H l⟩
theorem t_isD {C : String} {b : Bool} {kvs : List (Key × V)} (hp : Pick p (.dK kvs) L R) (hb : kitB "dict" C = some b) (k : Tr L fun H => Q (.bl b) H) : Tr L fun H => rIs K [.ref p, .ty C] H Q :=
  fun H l => ⟨_, .ty C, _, _, b, rfl, .ty C, .base (.dK (l.get hp)), kit_ty hb, k H l⟩
/-- one of several types -/
def kitBs (T : String) : List String → Option Bool
  | [] => some false
  | C :: r => match kitB T C with
    | some true => some true
    | some false => kitBs T r
    | none => none
theorem kitBs_any : ∀ {T : String} {Cs : List String} {b : Bool}, kitBs T Cs = some b → PySem.W.kitAny K (.type T) (Cs.map Value.type) = some b
  | T, [], b, h => by
    cases h
    exact kitAny_nil
  | T, C :: r, b, h => by
    unfold kitBs at h
    cases e : kitB T C with
    | none => rw [e] at h; cases h
    | some c =>
      rw [e] at h
      cases c with
      | true => cases h; exact kitAny_cons (kit_ty e) (fun z => nomatch z) fun _ => rfl
      | false => exact kitAny_cons (kit_ty e) (fun _ => kitBs_any h) fun z => nomatch z
theorem cls_tys : ∀ Cs : List String, Paired ClsV (Cs.map V.ty) (Cs.map Value.type)
  | [] => .nil
  | C :: r => .cons (.ty C) (cls_tys r)
theorem t_isTV {x : V} {Cs : List String} {b : Bool} {tp : Addr} (hp : Pick tp (.tup (Cs.map V.ty)) L R) (hn : (tyN x == "?") = false) (hb : kitBs (tyN x) Cs = some b) (k : Tr L fun H => Q (.bl b) H) : Tr L fun H => rIsT K [x, .ref tp] H Q :=
  fun H l => ⟨x, tp, _, _, _, b, rfl, l.get hp, cls_tys Cs, tyN_of hn, kitBs_any hb, k H l⟩
theorem t_isTL {R' : Lg} {Cs : List String} {b : Bool} {tp : Addr} (hp : Pick tp (.tup (Cs.map V.ty)) L R) (hq : Pick p (.lst xs) L R') (hb : kitBs "list" Cs = some b) (k : Tr L fun H => Q (.bl b) H) : Tr L fun H => rIsT K [.ref p, .ref tp] H Q :=
  fun H l => ⟨_, tp, _, _, _, b, rfl, l.get hp, cls_tys Cs, .base (.lst (l.get hq)), kitBs_any hb, k H l⟩
theorem t_isTT {R' : Lg} {Cs : List String} {b : Bool} {tp : Addr} (hp : Pick tp (.tup (Cs.map V.ty)) L R) (hq : Pick p (.tup xs) L R') (hb : kitBs "tuple" Cs = some b) (k : Tr L fun H => Q (.bl b) H) : Tr L fun H => rIsT K [.ref p, .ref tp] H Q :=
  fun H l => ⟨_, tp, _, _, _, b, rfl, l.get hp, cls_tys Cs, .base (.tup (l.get hq)), kitBs_any hb, k H l⟩
theorem t_isTD {R' : Lg} {Cs : List String} {b : Bool} {tp : Addr} {kvs : List (Key × V)} (hp : Pick tp (.tup (Cs.map V.ty)) L R) (hq : Pick p (.dK kvs) L R') (hb : kitBs "dict" Cs = some b) (k : Tr L fun H => Q (.bl b) H) : Tr L fun H => rIsT K [.ref p, .ref tp] H Q :=
  fun H l => ⟨_, tp, _, _, _, b, rfl, l.get hp, cls_tys Cs, .base (.dK (l.get hq)), kitBs_any hb, k H l⟩
theorem t_listL (hp : Pick a (.lst xs) L R) (k : ∀ p, Tr ((p, .lst xs) :: L) fun H => Q (.ref p) H) : Tr L fun H => rList K [.ref a] H Q := fun H l => ⟨a, xs, rfl, .inl (sqL hp l), fun p hp' => k p _ (l.new hp')⟩
theorem t_listT (hp : Pick a (.tup xs) L R) (k : ∀ p, Tr ((p, .lst xs) :: L) fun H => Q (.ref p) H) : Tr L fun H => rList K [.ref a] H Q := fun H l => ⟨a, xs, rfl, .inr (sqT hp l), fun p hp' => k p _ (l.new hp')⟩
theorem t_tupleL (hp : Pick a (.lst xs) L R) (k : ∀ p, Tr ((p, .tup xs) :: L) fun H => Q (.ref p) H) : Tr L fun H => rTuple K [.ref a] H Q := fun H l => ⟨a, xs, rfl, .inl ⟨sqL hp l, fun p hp' => k p _ (l.new hp')⟩⟩
/-- list(range(..)) -/
def newRg (m n : Int) (H : Hp) (Q : VK) : Prop := RgOk m n ∧ ∀ q, H q = none → Q (.ref q) (upd H q (.lst (rgV m n)))
theorem t_lstRg {te : SS → Hp → (Int → Int → Hp → Prop) → Prop} (k : Tr L fun H => te σ H fun m n H1 => newRg m n H1 Q) : Tr L fun H => tLstRg te σ H Q := k
theorem t_rg1 {te : TE} {QQ : Int → Int → Hp → Prop} (k : Tr L fun H => te σ H fun x H1 => ∃ n, x = .int n ∧ QQ 0 n H1) : Tr L fun H => tRg1 te σ H QQ := k
theorem t_rg2 {te tf : TE} {QQ : Int → Int → Hp → Prop} (k : Tr L fun H => te σ H fun x H1 => tf σ H1 fun y H2 => ∃ i j, x = .int i ∧ y = .int j ∧ QQ i j H2) : Tr L fun H => tRg2 te tf σ H QQ := k
theorem t_int2 {m n : Int} {G : Int → Int → Hp → Prop} (k : Tr L fun H => G m n H) : Tr L fun H => ∃ i j, V.int m = .int i ∧ V.int n = .int j ∧ G i j H := fun H l => ⟨m, n, rfl, rfl, k H l⟩
theorem t_newRg {m n : Int} (h : RgOk m n) (k : ∀ p, Tr ((p, .lst (rgV m n)) :: L) fun H => Q (.ref p) H) : Tr L fun H => newRg m n H Q := fun H l => ⟨h, fun p hp => k p _ (l.new hp)⟩
/-- xs[::-1] -/
def newRev (K : PySem.W.Frag) (x : V) (H : Hp) (Q : VK) : Prop := ∃ a xs, x = .ref a ∧ SqL K H a xs ∧ ∀ p, H p = none → Q (.ref p) (upd H p (.lst xs.reverse))
theorem t_revL {te : TE} (k : Tr L fun H => te σ H fun x H1 => newRev K x H1 Q) : Tr L fun H => tRevL K te σ H Q := k
theorem t_newRev (hp : Pick a (.lst xs) L R) (k : ∀ p, Tr ((p, .lst xs.reverse) :: L) fun H => Q (.ref p) H) : Tr L fun H => newRev K (.ref a) H Q := fun H l => ⟨a, xs, rfl, sqL hp l, fun p hp' => k p _ (l.new hp')⟩
theorem t_isB {m n : Bool} (k : Tr L fun H => Q (.bl (decide (m = n))) H) : Tr L fun H => rIsB (.bl m) (.bl n) H Q := fun H l => ⟨m, n, rfl, rfl, k H l⟩
theorem t_notB {m n : Bool} (k : Tr L fun H => Q (.bl (!decide (m = n))) H) : Tr L fun H => rNotB (.bl m) (.bl n) H Q := fun H l => ⟨m, n, rfl, rfl, k H l⟩
theorem t_all {bs : List Bool} (hp : Pick a (.lst (bs.map V.bl)) L R) (k : Tr L fun H => Q (.bl (bs.all id)) H) : Tr L fun H => rAll K [.ref a] H Q := fun H l => ⟨a, bs, rfl, sqL hp l, k H l⟩
theorem t_any {bs : List Bool} (hp : Pick a (.lst (bs.map V.bl)) L R) (k : Tr L fun H => Q (.bl (bs.any id)) H) : Tr L fun H => rAny K [.ref a] H Q := fun H l => ⟨a, bs, rfl, sqL hp l, k H l⟩
theorem t_sum {ns : List Int} (hp : Pick a (.lst (ns.map V.int)) L R) (k : Tr L fun H => Q (.int ns.sum) H) : Tr L fun H => rSum K [.ref a] H Q := fun H l => ⟨a, ns, rfl, sqL hp l, k H l⟩
theorem t_maxL {ns : List Int} (hp : Pick a (.lst (ns.map V.int)) L R) (h0 : 0 < ns.length) (k : ∀ m, m ∈ ns → (∀ y, y ∈ ns → y ≤ m) → Tr L fun H => Q (.int m) H) : Tr L fun H => rMax K [.ref a] H Q := fun H l => ⟨a, ns, rfl, sqL hp l, h0, fun m h1 h2 => k m h1 h2 H l⟩
theorem t_minL {ns : List Int} (hp : Pick a (.lst (ns.map V.int)) L R) (h0 : 0 < ns.length) (k : ∀ m, m ∈ ns → (∀ y, y ∈ ns → m ≤ y) → Tr L fun H => Q (.int m) H) : Tr L fun H => rMin K [.ref a] H Q := fun H l => ⟨a, ns, rfl, sqL hp l, h0, fun m h1 h2 => k m h1 h2 H l⟩
/-- data by the ledger -/
def DpL (K : PySem.W.Frag) (L : Lg) (x : V) (d : PyData) : Prop := ∀ H, Led H L → Dp K H x d
theorem dpAll_ints {H : Hp} : ∀ ns : List Int, DpAll K H (ns.map V.int) (ns.map PyData.int)
  | [] => .nil
  | n :: r => .cons (.int n) (dpAll_ints r)
theorem dpl_ints {ns : List Int} (hp : Pick a (.lst (ns.map V.int)) L R) : DpL K L (.ref a) (.list (ns.map PyData.int)) := fun H l => .lst (sqL hp l) (dpAll_ints ns)
theorem t_repr {x : V} {d : PyData} (hd : DpL K L x d) (hs : d.showable = true) (hk : d.depth < 60) (hz : d.shown.length ≤ sizeLine) (k : Tr L fun H => Q (.str d.shown) H) : Tr L fun H => rRepr K [x] H Q :=
  fun H l => ⟨x, d, rfl, hd H l, hs, hk, hz, k H l⟩
theorem t_eqD {x y : V} {d e : PyData} (hd : DpL K L x d) (he : DpL K L y e) (sd : SeqAt.shaped d = true) (se : SeqAt.shaped e = true) (k : Tr L fun H => Q (.bl (PyData.eqv d e)) H) : Tr L fun H => rEqD K x y H Q :=
  fun H l => ⟨d, e, hd H l, he H l, sd, se, k H l⟩
theorem t_neD {x y : V} {d e : PyData} (hd : DpL K L x d) (he : DpL K L y e) (sd : SeqAt.shaped d = true) (se : SeqAt.shaped e = true) (k : Tr L fun H => Q (.bl (!PyData.eqv d e)) H) : Tr L fun H => rNeD K x y H Q :=
  fun H l => ⟨d, e, hd H l, he H l, sd, se, k H l⟩
end
end Hz

/-! Hz, part D: data by the ledger; defs by name; types by the ledger. -/
namespace Hz
open PySem PySem.Spec PyProof.Rows L2 RZ
/-! ### a def of the text, by its name -/
def Df (K : PySem.W.Frag) (mg : Str → Option Value) (x : Str) (st : Stmt) : Prop := ∃ (f : Addr) (fd : FuncData), mg x = some (.ref f) ∧ Fun K x x st f fd
/-- the built-in names are the built-ins -/
structure Blt (mg : Str → Option Value) : Prop where
  len_ : mg "len" = none
  isinstance_ : mg "isinstance" = none
  int_ : mg "int" = none
  bool_ : mg "bool" = none
  str_ : mg "str" = none
  list_ : mg "list" = none
  tuple_ : mg "tuple" = none
  dict_ : mg "dict" = none
  set_ : mg "set" = none
  range_ : mg "range" = none
  enumerate_ : mg "enumerate" = none
  zip_ : mg "zip" = none
  repr_ : mg "repr" = none
  max_ : mg "max" = none
  min_ : mg "min" = none
  all_ : mg "all" = none
  any_ : mg "any" = none
  sum_ : mg "sum" = none
  sorted_ : mg "sorted" = none
  abs_ : mg "abs" = none
theorem boot_len : bootBuiltins "len" = some (.builtin "len") := PySem.boot_len
theorem boot_min : bootBuiltins "min" = some (.builtin "min") := by decide +kernel
theorem boot_max : bootBuiltins "max" = some (.builtin "max") := by decide +kernel
theorem boot_all : bootBuiltins "all" = some (.builtin "all") := by decide +kernel
theorem boot_any : bootBuiltins "any" = some (.builtin "any") := by decide +kernel
theorem boot_sum : bootBuiltins "sum" = some (.builtin "sum") := by decide +kernel
/-- a promise that nobody can call upon: for the branch that is never walked -/
def spNo : Sp := fun _ _ _ _ => False
theorem okNo {P : Program} {w : World} {K : PySem.W.Frag} {mg : Str → Option Value} {base : Heap} {CX : CXT} {x : Str} {st : Stmt} {ps : List Str} (D : Df K mg x st)
    (b : ∀ fd f, Fun K x x st f fd → Binds K fd ps []) : Ok P w K mg base CX 0 x ps spNo := by
  obtain ⟨f, fd, hm, F⟩ := D
  exact ⟨f, fd, hm, F.kp, b _ _ F, ⟨fun _ _ _ _ h => h.elim, fun _ _ _ _ _ _ _ _ _ _ _ _ _ h => h.elim⟩, F.lk⟩
theorem pe_ty {X : Cx} {x : Str} {T : String} {pos : Pos} (hm : X.mg x = none) (hv : bootBuiltins x = some (.type T)) (hg : Gl X x := by rfl) (hn : x ≠ "__name__" := by decide) (hd : (x == ("__debug__" : Str)) = false := by decide) :
    PE X (.Name x pos) (tC (.ty T)) := pe_bltn hg hm hv (show RelV (.ty T) (.type T) from rfl) hn hd
/-! ### picks and members -/
theorem Pick.mem {a : Addr} {o : HO} {L R : Lg} (h : Pick a o L R) : (a, o) ∈ L := h.perm.mem_iff.mpr (.head _)
theorem Pick.of_mem {a : Addr} {o : HO} : ∀ {L : Lg}, (a, o) ∈ L → ∃ R, Pick a o L R
  | _ :: L, h => by
    cases h with
    | head => exact ⟨_, .head⟩
    | tail _ h => obtain ⟨R, p⟩ := Pick.of_mem h; exact ⟨_, p.tail⟩
/-- the type's name of a value -/
inductive HasTy (L : Lg) : V → String → Prop where
  | non : HasTy L .non "NoneType"
  | bl (b : Bool) : HasTy L (.bl b) "bool"
  | int (i : Int) : HasTy L (.int i) "int"
  | str (z : Str) : HasTy L (.str z) "str"
  | lst {a : Addr} {xs : List V} : (a, .lst xs) ∈ L → HasTy L (.ref a) "list"
  | tup {a : Addr} {xs : List V} : (a, .tup xs) ∈ L → HasTy L (.ref a) "tuple"
  | dct {a : Addr} {kvs : List (Key × V)} : (a, .dK kvs) ∈ L → HasTy L (.ref a) "dict"
theorem HasTy.mono {L M : Lg} {x : V} {T : String} (h : HasTy L x T) (s : ∀ p ∈ L, p ∈ M) : HasTy M x T := by
  cases h with
  | non => exact .non
  | bl b => exact .bl b
  | int i => exact .int i
  | str z => exact .str z
  | lst m => exact .lst (s _ m)
  | tup m => exact .tup (s _ m)
  | dct m => exact .dct (s _ m)
def tyNames : List String := ["NoneType", "bool", "int", "str", "list", "tuple", "dict"]
theorem HasTy.name {L : Lg} {x : V} {T : String} (h : HasTy L x T) : T ∈ tyNames := by cases h <;> decide +kernel
theorem HasTy.tyx {K : PySem.W.Frag} {L : Lg} {H : Hp} {x : V} {T : String} (h : HasTy L x T) (l : Led H L) : TyX K H x (.type T) := by
  cases h with
  | non => exact .base .non
  | bl b => exact .base (.bl b)
  | int i => exact .base (.int i)
  | str z => exact .base (.str z)
  | lst m => exact .base (.lst (l.has _ m))
  | tup m => exact .base (.tup (l.has _ m))
  | dct m => exact .base (.dK (l.has _ m))
/-- isinstance by the types' names -/
def isB (T C : String) : Bool := T == C || (T == "bool" && C == "int")
theorem kitB_isB {T C : String} (h : T ∈ tyNames) (hc : C ∈ tyNames) : kitB T C = some (isB T C) := by
  have all : (tyNames.all fun T => tyNames.all fun C => decide (kitB T C = some (isB T C))) = true := by decide +kernel
  exact of_decide_eq_true (List.all_eq_true.mp (List.all_eq_true.mp all T h) C hc)
section
variable {L R : Lg} {Q : VK} {K : PySem.W.Frag} {x : V} {T : String}
theorem t_is {C : String} (h : HasTy L x T) (hc : C ∈ tyNames) (k : Tr L fun H => Q (.bl (isB T C)) H) : Tr L fun H => rIs K [x, .ty C] H Q :=
  fun H l => ⟨x, .ty C, _, _, _, rfl, .ty C, h.tyx l, kit_ty (kitB_isB h.name hc), k H l⟩
theorem kitBs_isB {T : String} (h : T ∈ tyNames) : ∀ Cs : List String, (∀ C ∈ Cs, C ∈ tyNames) → kitBs T Cs = some (Cs.any (isB T))
  | [], _ => rfl
  | C :: r, hc => by
    unfold kitBs
    rw [kitB_isB h (hc C (.head _)), List.any_cons]
    cases isB T C with
    | true => rfl
    | false => exact kitBs_isB h r fun D hD => hc D (.tail _ hD)
theorem t_isTs {Cs : List String} {tp : Addr} (hp : Pick tp (.tup (Cs.map V.ty)) L R) (h : HasTy L x T) (hc : ∀ C ∈ Cs, C ∈ tyNames) (k : Tr L fun H => Q (.bl (Cs.any (isB T))) H) : Tr L fun H => rIsT K [x, .ref tp] H Q :=
  fun H l => ⟨x, tp, _, _, _, _, rfl, l.get hp, cls_tys Cs, h.tyx l, kitBs_any (kitBs_isB h.name Cs hc), k H l⟩
end
/-! ### data -/
mutual
inductive Dt (L : Lg) : V → PyData → Prop where
  | non : Dt L .non .none
  | bl (b : Bool) : Dt L (.bl b) (.bool b)
  | int (i : Int) : Dt L (.int i) (.int i)
  | str (z : Str) : Dt L (.str z) (.str z)
  | lst {a : Addr} {xs : List V} {ds : List PyData} : (a, .lst xs) ∈ L → DtAll L xs ds → Dt L (.ref a) (.list ds)
  | tup {a : Addr} {xs : List V} {ds : List PyData} : (a, .tup xs) ∈ L → DtAll L xs ds → Dt L (.ref a) (.tuple ds)
inductive DtAll (L : Lg) : List V → List PyData → Prop where
  | nil : DtAll L [] []
  | cons {x : V} {xs : List V} {d : PyData} {ds : List PyData} : Dt L x d → DtAll L xs ds → DtAll L (x :: xs) (d :: ds)
end
mutual
theorem Dt.mono {L M : Lg} (s : ∀ p ∈ L, p ∈ M) : ∀ {x : V} {d : PyData}, Dt L x d → Dt M x d
  | _, _, .non => .non
  | _, _, .bl b => .bl b
  | _, _, .int i => .int i
  | _, _, .str z => .str z
  | _, _, .lst m h => .lst (s _ m) (DtAll.mono s h)
  | _, _, .tup m h => .tup (s _ m) (DtAll.mono s h)
theorem DtAll.mono {L M : Lg} (s : ∀ p ∈ L, p ∈ M) : ∀ {xs : List V} {ds : List PyData}, DtAll L xs ds → DtAll M xs ds
  | _, _, .nil => .nil
  | _, _, .cons h r => .cons (Dt.mono s h) (DtAll.mono s r)
end
mutual
theorem Dt.dp {K : PySem.W.Frag} {L : Lg} {H : Hp} (l : Led H L) : ∀ {x : V} {d : PyData}, Dt L x d → Dp K H x d
  | _, _, .non => .non
  | _, _, .bl b => .bl b
  | _, _, .int i => .int i
  | _, _, .str z => .str z
  | _, _, .lst m h => .lst (.inl (.inl (l.has _ m))) (DtAll.dp l h)
  | _, _, .tup m h => .tup (.inl (.inl (l.has _ m))) (DtAll.dp l h)
theorem DtAll.dp {K : PySem.W.Frag} {L : Lg} {H : Hp} (l : Led H L) : ∀ {xs : List V} {ds : List PyData}, DtAll L xs ds → DpAll K H xs ds
  | _, _, .nil => .nil
  | _, _, .cons h r => .cons (Dt.dp l h) (DtAll.dp l r)
end
theorem Dt.dpl {K : PySem.W.Frag} {L : Lg} {x : V} {d : PyData} (h : Dt L x d) : DpL K L x d := fun _ l => h.dp l
theorem DtAll.len {L : Lg} : ∀ {xs : List V} {ds : List PyData}, DtAll L xs ds → xs.length = ds.length
  | _, _, .nil => rfl
  | _, _, .cons _ r => by rw [List.length_cons, List.length_cons, r.len]
theorem DtAll.get {L : Lg} : ∀ {xs : List V} {ds : List PyData} {i : Nat} {x : V}, DtAll L xs ds → xs[i]? = some x → ∃ d, ds[i]? = some d ∧ Dt L x d
  | _, _, 0, _, .cons h _, e => by cases e; exact ⟨_, rfl, h⟩
  | _, _, i + 1, _, .cons _ r, e => r.get (i := i) (by simpa using e)
theorem DtAll.ints {L : Lg} : ∀ ns : List Int, DtAll L (ns.map V.int) (ns.map PyData.int)
  | [] => .nil
  | n :: r => .cons (.int n) (DtAll.ints r)
theorem Dt.ints {L : Lg} {a : Addr} {ns : List Int} (h : (a, .lst (ns.map V.int)) ∈ L) : Dt L (.ref a) (.list (ns.map PyData.int)) := .lst h (.ints ns)
theorem Dt.intsT {L : Lg} {a : Addr} {ns : List Int} (h : (a, .tup (ns.map V.int)) ∈ L) : Dt L (.ref a) (.tuple (ns.map PyData.int)) := .tup h (.ints ns)
theorem DtAll.bools {L : Lg} : ∀ bs : List Bool, DtAll L (bs.map V.bl) (bs.map PyData.bool)
  | [] => .nil
  | n :: r => .cons (.bl n) (DtAll.bools r)
mutual
/-- no list of it is longer than a list may be -/
def wide : PyData → Bool
  | .list ds | .tuple ds => decide (ds.length ≤ 100000) && wideAll ds
  | _ => true
def wideAll : List PyData → Bool
  | [] => true
  | d :: r => wide d && wideAll r
end
theorem wideAll_mem : ∀ {ds : List PyData} {d : PyData}, wideAll ds = true → d ∈ ds → wide d = true
  | e :: r, d, h, m => by
    rw [wideAll, Bool.and_eq_true] at h
    rcases List.mem_cons.mp m with rfl | m
    · exact h.1
    · exact wideAll_mem h.2 m
theorem wideAll_ints : ∀ ns : List Int, wideAll (ns.map PyData.int) = true
  | [] => by simp only [List.map_nil, wideAll]
  | n :: r => by simp only [List.map_cons, wideAll, wide, wideAll_ints r, Bool.and_self]
theorem wide_ints {ns : List Int} (h : ns.length ≤ 100000) : wide (.list (ns.map PyData.int)) = true := by
  rw [wide, wideAll_ints, List.length_map, decide_eq_true h]; rfl
theorem wide_intsT {ns : List Int} (h : ns.length ≤ 100000) : wide (.tuple (ns.map PyData.int)) = true := by
  rw [wide, wideAll_ints, List.length_map, decide_eq_true h]; rfl
def dtName : PyData → String
  | .none => "NoneType" | .bool _ => "bool" | .int _ => "int" | .str _ => "str" | .list _ => "list" | .tuple _ => "tuple" | .dict _ => "dict"
theorem Dt.ty {L : Lg} {x : V} {d : PyData} (h : Dt L x d) : HasTy L x (dtName d) := by
  cases h with
  | non => exact .non
  | bl b => exact .bl b
  | int i => exact .int i
  | str z => exact .str z
  | lst m _ => exact .lst m
  | tup m _ => exact .tup m
end Hz
namespace Hz
open PySem PySem.Spec PyProof.Rows L2 RZ
section
variable {L R' : Lg} {σ σ0 : SS} {g : TG} {tt : TT} {te : TE} {vs : List Nat} {Q : VK}
theorem take_more {α : Type} {R : List α} {i : Nat} {v : α} (h : R[i]? = some v) : R.take (i + 1) = R.take i ++ [v] := by
  rw [List.take_add_one, h]; rfl
/-- a comprehension that keeps every item, its elements told by a list -/
def lcMp (L : Lg) (R : List V) (D : Addr) (i : Nat) : Hp → Prop := lcNx (fun _ (_ : Unit) => L) (fun i _ => R.take i) (fun _ _ => True) D i
theorem t_lcMp {D : Addr} {i : Nat} {v : V} {R : List V} {M : Lg} {R2 : Lg} (hp : Pick D (.lst (R.take i)) M R2) (hv : R[i]? = some v) (hz : R.length ≤ sizeLine) (hM : Sub R2 L) : Tr M fun H => lcAdd D (lcMp L R D (i + 1)) v H := by
  refine t_lcAdd () trivial hp ?_ (take_more hv).symm hM
  have := (List.getElem?_eq_some_iff.mp hv).1
  rw [List.length_take]
  omega
theorem t_lcMap {J : It} {n : Nat} {val : Nat → V → Lg → Prop} {Src : Lg → Prop} (wk : Wk J n val Src) (hw : wipe σ vs = σ0) (R : List V) (hR : R.length = n) (hsrc : ∀ x, Src (x :: L))
    (hs : ∀ D i v L', i < n → val i v L' → Tr (L' ++ (D, .lst (R.take i)) :: L) fun H => g v σ0 H fun σ2 H2 => wipe σ2 vs = σ0 ∧ tt σ2 H2 fun b H3 => if b = true then te σ2 H3 (lcAdd D (lcMp L R D (i + 1))) else lcMp L R D (i + 1) H3)
    (hd : ∀ D, Tr ((D, .lst R) :: L) fun H => Q (.ref D) H) : Tr L fun H => lcK g tt te vs σ Q J H :=
  t_lcK wk hw (fun _ (_ : Unit) => L) (fun i _ => R.take i) (fun _ _ => True) ⟨(), trivial, rfl, .refl⟩ (fun D i y _ => hsrc _) (fun D i y v L' hi _ hv => hs D i v L' hi hv) fun D y _ => by
    rw [show R.take n = R from List.take_of_length_le (by omega)]
    exact hd D
theorem InL.cons {a : Addr} {xs : List V} {x : Addr × HO} (h : InL a xs L) : InL a xs (x :: L) := let ⟨_, p⟩ := h; ⟨_, p.tail⟩
theorem InT.cons {a : Addr} {xs : List V} {x : Addr × HO} (h : InT a xs L) : InT a xs (x :: L) := let ⟨_, p⟩ := h; ⟨_, p.tail⟩
theorem InL.of {a : Addr} {xs : List V} (h : (a, .lst xs) ∈ L) : InL a xs L := Pick.of_mem h
theorem InT.of {a : Addr} {xs : List V} (h : (a, .tup xs) ∈ L) : InT a xs L := Pick.of_mem h
/-- a list's text in the ledger is told otherwise -/
theorem Tr.lcast {a : Addr} {xs ys : List V} {G : Hp → Prop} (e : xs = ys) (t : Tr ((a, .lst ys) :: L) G) : Tr ((a, .lst xs) :: L) G := by rw [e]; exact t
end
end Hz
namespace Hz
open PySem PySem.Spec PyProof.Rows L2 RZ
section
variable {K : PySem.W.Frag} {h : Heap} {mg : Str → Option Value}
/-- a def as the head tells it -/
theorem df_mk (X : K.In h) (G : h.Ns mainGlobals mg) {x : Str} {st : Stmt} {f : Addr} {od an : Option Addr} {sl : Array (Option Value)} {oc kV dc pm cd ct : Value}
    (a : PySem.W.nsIn K mainGlobals x = some (some (.ref f))) (l : K.lookup f = some ⟨oc, od, .func (PySem.W.fnOf x x (defArgs st) (defBody st) (defScope st) .none kV dc pm an cd ct), sl⟩)
    (c : PySem.W.codeIn K cd x = true) (k : PySem.W.keepIn K (.ref f) = true) : Df K mg x st := ⟨f, _, PySem.W.mg_of X G a, fun_mk l c k⟩
theorem gv_mk (X : K.In h) (G : h.Ns mainGlobals mg) {x : Str} {v : V} {u : Value} (a : PySem.W.nsIn K mainGlobals x = some (some u)) (r : RelV v u) : GV mg x v := ⟨u, PySem.W.mg_of X G a, r⟩
theorem no_mk (X : K.In h) (G : h.Ns mainGlobals mg) {x : Str} (a : PySem.W.nsIn K mainGlobals x = some none) : mg x = none := PySem.W.mg_none_of X G a
end
end Hz

namespace Hz
open PySem PySem.Spec PyProof.Rows L2 RZ
/-! ### keywords -/
/-- the values by place, if they are m and n -/
def gP {α : Type} (m n : Nat) (is : List Nat) (us ws : List α) : List α := bif us.length == m && ws.length == n then is.filterMap fun i => (us ++ ws)[i]? else []
theorem vals_get {vs : List V} {us : List Value} (r : Vals vs us) : ∀ i : Nat, (∃ v u, vs[i]? = some v ∧ us[i]? = some u ∧ RelV v u) ∨ (vs[i]? = none ∧ us[i]? = none) := by
  induction r with
  | nil => intro i; exact .inr ⟨rfl, rfl⟩
  | cons h _ ih =>
    intro i
    cases i with
    | zero => exact .inl ⟨_, _, rfl, rfl, h⟩
    | succ i => simpa using ih i
theorem gP_rel (m n : Nat) (is : List Nat) {vs : List V} {us : List Value} {zs : List V} {ws : List Value} (r : Vals vs us) (q : Vals zs ws) : Vals (gP m n is vs zs) (gP m n is us ws) := by
  unfold gP
  rw [r.length, q.length]
  cases (us.length == m && ws.length == n) with
  | false => exact .nil
  | true =>
    have a := vals_get (r.append q)
    simp only [cond_true]
    induction is with
    | nil => exact .nil
    | cons i is ih =>
      rw [List.filterMap_cons, List.filterMap_cons]
      rcases a i with ⟨v, u, h1, h2, h3⟩ | ⟨h1, h2⟩
      · rw [h1, h2]; exact .cons h3 ih
      · rw [h1, h2]; exact ih
def tCallGK (sp : Sp) (m n : Nat) (is : List Nat) (E : L2.St → XK) (t tk : TA) : TE := fun σ H Q => t σ H fun vs H1 => tk σ H1 fun zs H2 => sp (gP m n is vs zs) H2 Q (E σ)
section
variable {X : Cx} {CX : CXT} {k : Nat} {ps ks : List Str} {sp : Sp} {E : L2.St → XK} {x : Str} {p pos : Pos} {e : Expr} {es : List Expr} {kws : List Keyword} {t tk : TA} {st : Stmt} {m n : Nat} {is : List Nat}
theorem run_GK {pins : List (Addr × Obj)} {σ : L2.St} {H : Hp} {s : Shared} {Q : VK} {us ws : List Value} {vs zs : List V} {f : Addr} {fd : FuncData} (F : FnG X.prog X.w X.K X.mg X.base CX k f fd ps sp) (hr : RoomG k X.A)
    (hb : (gP m n is us ws).length = ps.length → BindsTo s fd ⟨us, ks.zip ws⟩ (ps.zip (gP m n is us ws))) (hx : PassesAt CX X σ (E σ)) (I : Inv X pins σ H s) (r : Vals vs us) (rz : Vals zs ws) (h : sp (gP m n is vs zs) H Q (E σ)) :
    wpAny (model X.prog X.w) X.A (call (.ref f) us (ks.zip ws)) (EP X pins σ Q) X.xe s := by
  have r2 := gP_rel m n is r rz
  have hl : (gP m n is us ws).length = ps.length := by rw [← r2.length]; exact F.len _ _ _ _ h
  refine wpAny_call (codeAny_mono (F.run X.A X.stack s H ⟨us, ks.zip ws⟩ _ _ Q (E σ) hr I.env0 (hb hl) r2 h) fun r s' hq => ?_)
  match r, hq with
  | .error e, hq => exact hx pins H s e s' I hq
  | .ok (.ret u), hq => exact I.after hq
  | .ok .next, hq => exact hq.elim
  | .ok .brk, hq => exact hq.elim
  | .ok .cont, hq => exact hq.elim
theorem gP_shape {α : Type} {us ws : List α} {k : Nat} (h : (gP m n is us ws).length = k + 1) : us.length = m ∧ ws.length = n := by
  unfold gP at h
  cases e : (us.length == m && ws.length == n) with
  | true =>
    rw [Bool.and_eq_true, beq_iff_eq, beq_iff_eq] at e
    exact e
  | false => rw [e] at h; cases h
/-- f(e, .., a = v, ..) -/
theorem pe_callGK (D : Df X.K X.mg x st) (F : Ok X.prog X.w X.K X.mg X.base CX k x ps sp) (hr : RoomG k X.A) (hx : ∀ σ, PassesAt CX X σ (E σ)) (m n : Nat) (is : List Nat) (ks : List Str) (hps : ∃ k, ps.length = k + 1)
    (hb : ∀ (kV doc pm : Value) (an : Option Addr) (cdv ct : Value) (us ws : List Value), us.length = m → ws.length = n → bindArgs (PySem.W.fnOf x x (defArgs st) (defBody st) (defScope st) .none kV doc pm an cdv ct) ⟨us, ks.zip ws⟩ = pure (ps.zip (gP m n is us ws)))
    (ha : PA X (e :: es) t) (hkw : PK X kws tk) (hg : Gl X x := by rfl) (hall : (backToKw pos (keywordEach kws X.env)).all (·.1.isSome) = true := by rfl) (hks : (backToKw pos (keywordEach kws X.env)).filterMap (·.1) = ks := by rfl)
    (hdb : (x == ("__debug__" : Str)) = false := by decide) (he : starEach (e :: es) X.env = (false, eval e X.env) :: starEach es X.env := by rfl)
    (hpl : ((backTo pos (starEach (e :: es) X.env)).any (·.1) || (backToKw pos (keywordEach kws X.env)).any (·.1.isNone)) = false := by rfl) : PE X (.Call (.Name x p) (e :: es) kws pos) (tCallGK sp m n is E t tk) := by
  obtain ⟨f, fd, hm, hk, _, F, oc, od, osl, lk⟩ := F
  obtain ⟨f', fd', hm', G⟩ := D
  obtain ⟨oc', od', kV, doc, pm, an, cdv, ct, osl', rfl, lk', hcd⟩ := G.ex
  rw [hm] at hm'
  cases hm'
  rw [lk] at lk'
  cases lk'
  refine ⟨fun pins s σ H Q I h => wpAny_Call_Name_kw (ld_glob I hg hm (PySem.W.callWith_KW (h₀ := X.base) I.ok.mod.kin hk hall ?_ hpl he) hdb)⟩
  refine thn (ha.run pos pins s σ H _ I h) fun us s1 ⟨vs, H1, I1, r, q⟩ => ?_
  refine thn (hkw.run pos pins s1 σ H1 _ I1 q) fun ws s2 ⟨zs, H2, I2, rz, q2⟩ => ⟨I2.kIn, ?_⟩
  rw [hks]
  refine run_GK F hr (fun hl => ?_) (hx σ) I2 r rz q2
  obtain ⟨k, ek⟩ := hps
  obtain ⟨h1, h2⟩ := gP_shape (hl.trans ek)
  exact .of_eq (hb kV doc pm an cdv ct us ws h1 h2)
/-- f(a = v, ..) -/
theorem pe_callGK0 (D : Df X.K X.mg x st) (F : Ok X.prog X.w X.K X.mg X.base CX k x ps sp) (hr : RoomG k X.A) (hx : ∀ σ, PassesAt CX X σ (E σ)) (n : Nat) (is : List Nat) (ks : List Str) (hps : ∃ k, ps.length = k + 1)
    (hb : ∀ (kV doc pm : Value) (an : Option Addr) (cdv ct : Value) (us ws : List Value), us.length = 0 → ws.length = n → bindArgs (PySem.W.fnOf x x (defArgs st) (defBody st) (defScope st) .none kV doc pm an cdv ct) ⟨us, ks.zip ws⟩ = pure (ps.zip (gP 0 n is us ws)))
    (hkw : PK X kws tk) (hg : Gl X x := by rfl) (hall : (backToKw pos (keywordEach kws X.env)).all (·.1.isSome) = true := by rfl) (hks : (backToKw pos (keywordEach kws X.env)).filterMap (·.1) = ks := by rfl)
    (hdb : (x == ("__debug__" : Str)) = false := by decide)
    (hpl : ((backTo pos (starEach [] X.env)).any (·.1) || (backToKw pos (keywordEach kws X.env)).any (·.1.isNone)) = false := by rfl) : PE X (.Call (.Name x p) [] kws pos) (tCallGK sp 0 n is E tNil tk) := by
  obtain ⟨f, fd, hm, hk, _, F, oc, od, osl, lk⟩ := F
  obtain ⟨f', fd', hm', G⟩ := D
  obtain ⟨oc', od', kV, doc, pm, an, cdv, ct, osl', rfl, lk', hcd⟩ := G.ex
  rw [hm] at hm'
  cases hm'
  rw [lk] at lk'
  cases lk'
  refine ⟨fun pins s σ H Q I h => wpAny_Call_Name_kw (ld_glob I hg hm (PySem.W.callWith_KW0 (h₀ := X.base) I.ok.mod.kin hk hall ?_ hpl) hdb)⟩
  refine thn (hkw.run pos pins s σ H _ I h) fun ws s2 ⟨zs, H2, I2, rz, q2⟩ => ⟨I2.kIn, ?_⟩
  rw [hks]
  refine run_GK (us := []) F hr (fun hl => ?_) (hx σ) I2 .nil rz q2
  obtain ⟨k, ek⟩ := hps
  obtain ⟨h1, h2⟩ := gP_shape (hl.trans ek)
  exact .of_eq (hb kV doc pm an cdv ct [] ws h1 h2)
end
section
variable {L : Lg} {σ : SS} {Q : VK} {t tk : TA} {sp : Sp} {E : SS → XK} {m n : Nat} {is : List Nat}
theorem t_callGK (k : Tr L fun H => t σ H fun vs H1 => tk σ H1 fun zs H2 => sp (gP m n is vs zs) H2 Q (E σ)) : Tr L fun H => tCallGK sp m n is E t tk σ H Q := k
end
end Hz

/-! Hz, part O: lists of ints, their texts; numbers' sizes. -/
namespace Hz
open PySem PySem.Spec PyProof.Rows L2 RZ
/-! ### sizes -/
theorem bits_le {i : Int} {N : Nat} (h0 : 1 ≤ N) (h : i.natAbs < 2 ^ N) : Builtin.Int.intBits i ≤ N := by
  have := PySem.Flt.log2_lt_of h0 h
  unfold Builtin.Int.intBits
  split <;> omega
theorem natAbs_lt {i : Int} {b : Nat} (h1 : -(b : Int) < i) (h2 : i < b) : i.natAbs < b := by omega
theorem pow_ok {i j : Int} (N : Nat) (h0 : 1 ≤ N) (h1 : i.natAbs < 2 ^ N) (h2 : 0 ≤ j) (h3 : (N : Int) * j ≤ 134217728) : cPow i j := by
  refine ⟨h2, ?_⟩
  have h := bits_le h0 h1
  have h4 : (Builtin.Int.intBits i : Int) * j ≤ (N : Int) * j := Int.mul_le_mul_of_nonneg_right (by omega) h2
  have e : (2 : Int) ^ 27 = 134217728 := by decide
  rw [e]; omega
theorem mul_ok {i j : Int} (M N : Nat) (h0 : 1 ≤ M) (h1 : 1 ≤ N) (hi : i.natAbs < 2 ^ M) (hj : j.natAbs < 2 ^ N) (h : M + N ≤ 1000000) : cMul i j := .inr (.inr (wide_mul hi hj h0 h1 h))
theorem div_ok {i j : Int} (N : Nat) (h0 : 1 ≤ N) (h1 : 0 < j) (h2 : j.natAbs < 2 ^ N) (h : N ≤ 9000) : CDivW i j := wide_div h1 h2 h0 h
/-! ### lists of ints by place -/
theorem at_mem {ns : List Int} {i : Int} (h0 : 0 ≤ i) (h1 : i < ns.length) : ∃ n, atI (ns.map V.int) i = some (.int n) ∧ n ∈ ns ∧ ns[i.toNat]? = some n := by
  obtain ⟨j, rfl⟩ : ∃ j : Nat, i = (j : Int) := ⟨i.toNat, by omega⟩
  have hl : j < ns.length := by omega
  refine ⟨ns[j], atI_nat ?_, List.getElem_mem hl, by rw [Int.toNat_natCast, List.getElem?_eq_getElem hl]⟩
  rw [List.getElem?_map, List.getElem?_eq_getElem hl]; rfl
theorem at_int {ns : List Int} {i : Nat} {n : Int} (h : ns[i]? = some n) : atI (ns.map V.int) (i : Int) = some (.int n) := atI_nat (get_mapI h)
where get_mapI {ns : List Int} {i : Nat} {n : Int} (h : ns[i]? = some n) : (ns.map V.int)[i]? = some (.int n) := by rw [List.getElem?_map, h]; rfl
theorem at_lastI (ns : List Int) (n : Int) : atI ((ns ++ [n]).map V.int) (-1) = some (.int n) := by
  rw [List.map_append]; exact atI_last _ _
/-! ### chains -/
def chainI : Int → List Int → Prop
  | _, [] => True
  | b, d :: r => 0 ≤ d ∧ d ≤ b + 1 ∧ chainI d r
def lastD (b : Int) : List Int → Int
  | [] => b
  | d :: r => lastD d r
theorem chainI_append : ∀ (b : Int) (xs ys : List Int), chainI b (xs ++ ys) ↔ chainI b xs ∧ chainI (lastD b xs) ys
  | b, [], ys => by simp [chainI, lastD]
  | b, d :: r, ys => by
    show (0 ≤ d ∧ d ≤ b + 1 ∧ chainI d (r ++ ys)) ↔ (0 ≤ d ∧ d ≤ b + 1 ∧ chainI d r) ∧ chainI (lastD d r) ys
    rw [chainI_append d r ys]
    constructor
    · rintro ⟨h1, h2, h3, h4⟩; exact ⟨⟨h1, h2, h3⟩, h4⟩
    · rintro ⟨⟨h1, h2, h3⟩, h4⟩; exact ⟨h1, h2, h3, h4⟩
theorem lastD_append : ∀ (b : Int) (xs : List Int) (d : Int), lastD b (xs ++ [d]) = d
  | _, [], _ => rfl
  | _, e :: r, d => lastD_append e r d
theorem chainI_bounds : ∀ (b : Int) (xs : List Int), chainI b xs → ∀ (i : Nat) (d : Int), xs[i]? = some d → 0 ≤ d ∧ d ≤ b + 1 + i
  | b, e :: r, h, 0, d, q => by
    cases q
    exact ⟨h.1, by have := h.2.1; omega⟩
  | b, e :: r, h, i + 1, d, q => by
    have := chainI_bounds e r h.2.2 i d (by simpa using q)
    have := h.2.1
    omega
theorem chainI_take : ∀ (b : Int) (xs : List Int) (n : Nat), chainI b xs → chainI b (xs.take n)
  | _, [], n, _ => by rw [List.take_nil]; trivial
  | _, _ :: _, 0, _ => trivial
  | _, d :: r, n + 1, h => ⟨h.1, h.2.1, chainI_take d r n h.2.2⟩
/-! ### the text of a list of ints -/
def reprI (ns : List Int) : Str := (PyData.list (ns.map PyData.int)).shown
theorem shownAll_map (ns : List Int) : PyData.shownAll (ns.map PyData.int) = ns.map fun n => (toString n : Str) := by
  induction ns with
  | nil => simp only [List.map_nil, PyData.shownAll]
  | cons n r ih => simp only [List.map_cons, PyData.shownAll, PyData.shown, ih]
theorem showableAll_map {ns : List Int} (h : ∀ n ∈ ns, n.natAbs < 2 ^ 1000) : PyData.showableAll (ns.map PyData.int) = true := by
  induction ns with
  | nil => simp only [List.map_nil, PyData.showableAll]
  | cons n r ih =>
    have := PySem.Flt.log2_lt_of (by decide : 0 < 1000) (h n (.head _))
    simp only [List.map_cons, PyData.showableAll, PyData.showable, ih fun m hm => h m (.tail _ hm), Bool.and_true, decide_eq_true_eq]
    omega
theorem int_len {n : Int} (h : n.natAbs < 2 ^ 1000) : ((toString n : Str)).length ≤ 1001 := by
  rw [PySem.ofString_length]
  exact int_text_length_le (by decide) (PySem.Flt.log2_lt_of (by decide : 0 < 1000) h)
theorem sum_le_len : ∀ (l : List Nat) (k : Nat), (∀ x ∈ l, x ≤ k) → l.sum ≤ l.length * k
  | [], _, _ => by simp
  | x :: r, k, h => by
    have h1 := sum_le_len r k fun y hy => h y (.tail _ hy)
    have h2 := h x (.head _)
    rw [List.sum_cons, List.length_cons, Nat.add_mul]
    omega
theorem reprI_len {ns : List Int} (h : ∀ n ∈ ns, n.natAbs < 2 ^ 1000) (hl : ns.length ≤ 16000) : (reprI ns).length ≤ sizeLine := by
  have h1 := listText_len_le (PyData.shownAll (ns.map PyData.int))
  have h2 : ((PyData.shownAll (ns.map PyData.int)).map (·.length)).sum ≤ ns.length * 1001 := by
    rw [shownAll_map, List.map_map]
    have := sum_le_len (ns.map ((fun x : Str => x.length) ∘ fun n : Int => (toString n : Str))) 1001 (fun x hx => by
      obtain ⟨n, hn, rfl⟩ := List.mem_map.mp hx
      exact int_len (h n hn))
    rwa [List.length_map] at this
  have h3 : (PyData.shownAll (ns.map PyData.int)).length = ns.length := by rw [shownAll_map, List.length_map]
  unfold reprI
  rw [PyData.shown, sizeLine_eq]
  omega
theorem depthAll_ints : ∀ ns : List Int, PyData.depthAll (ns.map PyData.int) = 0
  | [] => by simp only [List.map_nil, PyData.depthAll]
  | n :: r => by simp only [List.map_cons, PyData.depthAll, PyData.depth, depthAll_ints r, Nat.max_self]
theorem t_reprI {K : PySem.W.Frag} {L : Lg} {Q : VK} {a : Addr} {ns : List Int} (hm : (a, .lst (ns.map V.int)) ∈ L) (h : ∀ n ∈ ns, n.natAbs < 2 ^ 1000) (hl : ns.length ≤ 16000)
    (k : Tr L fun H => Q (.str (reprI ns)) H) : Tr L fun H => rRepr K [.ref a] H Q :=
  t_repr (Dt.ints hm).dpl (by simp only [PyData.showable]; exact showableAll_map h) (by simp only [PyData.depth, depthAll_ints]; decide) (reprI_len h hl) k
/-- == of two lists of ints -/
theorem eqv_ints : ∀ (xs ys : List Int), PyData.eqv (.list (xs.map PyData.int)) (.list (ys.map PyData.int)) = decide (xs = ys) := by
  have all : ∀ (xs ys : List Int), PyData.eqvAll (xs.map PyData.int) (ys.map PyData.int) = decide (xs = ys) := by
    intro xs
    induction xs with
    | nil => intro ys; cases ys <;> simp [PyData.eqvAll]
    | cons x r ih =>
      intro ys
      cases ys with
      | nil => simp [PyData.eqvAll]
      | cons y s => simp only [List.map_cons, PyData.eqvAll, PyData.eqv, ih, List.cons.injEq, Bool.decide_and]; rfl
  intro xs ys
  simp only [PyData.eqv, all]
theorem shaped_ints (ns : List Int) : SeqAt.shaped (.list (ns.map PyData.int)) = true := by
  have c : ∀ ns : List Int, PyData.canLayAll0 (ns.map PyData.int) = true := by
    intro ns
    induction ns with
    | nil => simp [PyData.canLayAll0]
    | cons n r ih => simp [PyData.canLayAll0, PyData.canLay0, ih]
  unfold SeqAt.shaped
  simp [PyData.canLay0, c, PyData.depth, depthAll_ints]
theorem t_eqInts {K : PySem.W.Frag} {L : Lg} {Q : VK} {a b : Addr} {xs ys : List Int} (ha : (a, .lst (xs.map V.int)) ∈ L) (hb : (b, .lst (ys.map V.int)) ∈ L) (k : Tr L fun H => Q (.bl (decide (xs = ys))) H) : Tr L fun H => rEqD K (.ref a) (.ref b) H Q :=
  t_eqD (Dt.ints ha).dpl (Dt.ints hb).dpl (shaped_ints xs) (shaped_ints ys) (by rw [eqv_ints]; exact k)
end Hz
namespace Hz
open PySem PySem.Spec PyProof.Rows L2 RZ
theorem at_lastD {ns : List Int} (b : Int) (h : 1 ≤ ns.length) : atI (ns.map V.int) (-1) = some (.int (lastD b ns)) := by
  obtain ⟨l, x, rfl⟩ : ∃ l x, ns = l ++ [x] := ⟨ns.dropLast, ns.getLast (by intro e; subst e; simp at h), (List.dropLast_concat_getLast _).symm⟩
  rw [lastD_append]
  exact at_lastI l x
theorem lastD_bound : ∀ (b : Int) (ns : List Int), chainI b ns → 1 ≤ ns.length → 0 ≤ lastD b ns ∧ lastD b ns ≤ b + ns.length
  | b, [], _, h => by simp at h
  | b, [d], h, _ => by
    have := h.1; have := h.2.1
    show 0 ≤ d ∧ d ≤ b + ((1 : Nat) : Int)
    omega
  | b, d :: e :: r, h, _ => by
    have ih := lastD_bound d (e :: r) h.2.2 (by simp)
    have := h.2.1
    show 0 ≤ lastD d (e :: r) ∧ lastD d (e :: r) ≤ b + (((e :: r).length + 1 : Nat) : Int)
    omega
theorem map_snoc (ns : List Int) (n : Int) : ns.map V.int ++ [V.int n] = (ns ++ [n]).map V.int := by rw [List.map_append]; rfl
end Hz
namespace Hz
open PySem PySem.Spec PyProof.Rows L2 RZ
theorem depthAll_le : ∀ {ds : List PyData} {d : PyData}, d ∈ ds → d.depth ≤ PyData.depthAll ds
  | e :: r, d, h => by
    rw [PyData.depthAll]
    rcases List.mem_cons.mp h with rfl | h
    · exact Nat.le_max_left _ _
    · exact Nat.le_trans (depthAll_le h) (Nat.le_max_right _ _)
end Hz
namespace Hz
open PySem PySem.Spec PyProof.Rows L2
/-- a, a + 1, .. below b -/
def rgI (a b : Int) : List Int := (List.range (b - a).toNat).map fun i => a + (i : Nat)
theorem rgV_ints (a b : Int) : rgV a b = (rgI a b).map V.int := by unfold rgV rgI; rw [List.map_map]; rfl
theorem rgI_len (a b : Int) : (rgI a b).length = (b - a).toNat := by unfold rgI; rw [List.length_map, List.length_range]
theorem rgI_get {a b : Int} {i : Nat} (h : i < (b - a).toNat) : (rgI a b)[i]? = some (a + i) := by
  unfold rgI
  rw [List.getElem?_map, List.getElem?_range h]; rfl
theorem rep_ints (k : Nat) (n : Int) : (List.replicate k [V.int n]).flatten = (List.replicate k n).map V.int := by
  induction k with
  | zero => rfl
  | succ k ih => rw [List.replicate_succ, List.flatten_cons, ih, List.replicate_succ, List.map_cons]; rfl
end Hz
namespace Hz
open PySem PySem.Spec PyProof.Rows L2 RZ
theorem last_get {ns : List Int} (b : Int) (h : 1 ≤ ns.length) : (ns.map V.int)[(ns.map V.int).length - 1]? = some (.int (lastD b ns)) := by
  obtain ⟨l, x, rfl⟩ : ∃ l x, ns = l ++ [x] := ⟨ns.dropLast, ns.getLast (by intro e; subst e; simp at h), (List.dropLast_concat_getLast _).symm⟩
  rw [lastD_append]
  simp
/-- xs.pop() of ints -/
theorem t_popI {L R : Lg} {Q : VK} {p : Addr} {ns : List Int} (hp : Pick p (.lst (ns.map V.int)) L R) (h : 1 ≤ ns.length) (k : Tr ((p, .lst (ns.dropLast.map V.int)) :: R) fun H => Q (.int (lastD (-1) ns)) H) : Tr L fun H => rPop (.ref p) [] H Q :=
  t_popM hp (last_get (-1) h) (Tr.lcast List.map_dropLast.symm k)
/-- xs.append(n) of ints -/
theorem t_appI {L R : Lg} {Q : VK} {p : Addr} {ns : List Int} {n : Int} (hp : Pick p (.lst (ns.map V.int)) L R) (h : ns.length < sizeLine) (k : Tr ((p, .lst ((ns ++ [n]).map V.int)) :: R) fun H => Q .non H) : Tr L fun H => rAppend (.ref p) [.int n] H Q :=
  t_append hp (by rw [List.length_map]; exact h) (Tr.lcast (map_snoc ns n) k)
end Hz
namespace Hz
open PySem PySem.Spec PyProof.Rows L2 RZ
/-! ### the law's own list, read -/
/-- wherever the ledger stands, the law's list is at a -/
def Scr (K : PySem.W.Frag) (L : Lg) (a : Addr) (ns : List Int) : Prop := ∀ H, Led H L → ScrL K H a (ns.map V.int)
theorem Scr.mono {K : PySem.W.Frag} {L M : Lg} {a : Addr} {ns : List Int} (h : Scr K L a ns) (s : ∀ {H}, Led H M → Led H L) : Scr K M a ns := fun H l => h H (s l)
theorem Scr.cons {K : PySem.W.Frag} {L : Lg} {x : Addr × HO} {a : Addr} {ns : List Int} (h : Scr K L a ns) : Scr K (x :: L) a ns := h.mono Led.tail
theorem scr_start {K : PySem.W.Frag} {H : Hp} {a : Addr} {ns : List Int} (h : ScrL K H a (ns.map V.int)) : ∃ L, Led H L ∧ Scr K L a ns := by
  obtain ⟨its, r, z, h | h⟩ := h
  · refine ⟨[(a, .frz { cls := .type "list", data := .seq its.toArray } (.lst (ns.map V.int)))], ⟨fun p hp => ?_, by simp⟩, fun H l => ⟨its, r, z, .inl (l.has _ (.head _))⟩⟩
    rw [List.mem_singleton.mp hp]
    exact h
  · exact ⟨[], .nil, fun H _ => ⟨its, r, z, .inr h⟩⟩
section
variable {L R : Lg} {Q : VK} {K : PySem.W.Frag} {a b : Addr} {ns : List Int} {ys : List V}
theorem t_lenSc (h : Scr K L a ns) (k : Tr L fun H => Q (.int ns.length) H) : Tr L fun H => rLen K [.ref a] H Q := fun H l => ⟨_, _, rfl, .inl ⟨_, (h H l).sq, by rw [List.length_map]⟩, k H l⟩
theorem t_catSc (h : Scr K L a ns) (hp : Pick b (.lst ys) L R) (hz : ns.length + ys.length ≤ sizeLine) (k : ∀ p, Tr ((p, .lst (ns.map V.int ++ ys)) :: L) fun H => Q (.ref p) H) : Tr L fun H => rCatS K (.ref a) (.ref b) H Q :=
  fun H l => ⟨a, b, _, ys, rfl, rfl, h H l, l.get hp, by rw [List.length_map]; exact hz, fun p hp' => k p _ (l.new hp')⟩
theorem t_slSc {lo hi : Option Int} (h : Scr K L a ns) (k : ∀ p, Tr ((p, .lst (cutV (ns.map V.int) lo hi)) :: L) fun H => Q (.ref p) H) : Tr L fun H => rSlL K (.ref a) lo hi H Q := fun H l => ⟨a, _, rfl, (h H l).sq, fun p hp' => k p _ (l.new hp')⟩
theorem t_ixSc {m : Int} {v : V} (h : Scr K L a ns) (ha : atI (ns.map V.int) m = some v) (k : Tr L fun H => Q v H) : Tr L fun H => rIxL K (.ref a) (.int m) H Q := fun H l => ⟨a, _, m, v, rfl, rfl, (h H l).sq, ha, k H l⟩
theorem dpl_sc (h : Scr K L a ns) : DpL K L (.ref a) (.list (ns.map PyData.int)) := fun H l => .lst (h H l).sq (dpAll_ints ns)
/-- script == [] -/
theorem t_eqSc {zs : List Int} (h : Scr K L a ns) (hb : (b, .lst (zs.map V.int)) ∈ L) (k : Tr L fun H => Q (.bl (decide (ns = zs))) H) : Tr L fun H => rEqD K (.ref a) (.ref b) H Q :=
  t_eqD (dpl_sc h) (Dt.ints hb).dpl (shaped_ints ns) (shaped_ints zs) (by rw [eqv_ints]; exact k)
theorem t_neSc {zs : List Int} (h : Scr K L a ns) (hb : (b, .lst (zs.map V.int)) ∈ L) (k : Tr L fun H => Q (.bl (!decide (ns = zs))) H) : Tr L fun H => rNeD K (.ref a) (.ref b) H Q :=
  t_neD (dpl_sc h) (Dt.ints hb).dpl (shaped_ints ns) (shaped_ints zs) (by rw [eqv_ints]; exact k)
end
/-- a slice of ints -/
def cutI (ns : List Int) (lo hi : Option Int) : List Int := (ns.drop (HT.sIx ns.length 0 lo)).take (HT.sIx ns.length ns.length hi - HT.sIx ns.length 0 lo)
theorem cut_ints (ns : List Int) (lo hi : Option Int) : cutV (ns.map V.int) lo hi = (cutI ns lo hi).map V.int := by
  unfold cutV cutI
  rw [List.length_map, List.map_take, List.map_drop]
theorem cutI_len (ns : List Int) (lo hi : Option Int) : (cutI ns lo hi).length ≤ ns.length := by
  unfold cutI
  rw [List.length_take, List.length_drop]; omega
theorem cutI_mem {ns : List Int} {lo hi : Option Int} {n : Int} (h : n ∈ cutI ns lo hi) : n ∈ ns := List.mem_of_mem_drop (List.mem_of_mem_take h)
end Hz

/-! Hz, part F: ints by place; filtered comprehensions; members; a list's places. -/
namespace Hz
open PySem PySem.Spec PyProof.Rows L2 RZ
/-! ### ints by place -/
/-- the i-th of ns -/
def atD (ns : List Int) (i : Int) : Int := ns.getD i.toNat 0
theorem atD_get {ns : List Int} {i : Int} (h0 : 0 ≤ i) (h1 : i < ns.length) : ns[i.toNat]? = some (atD ns i) := by
  unfold atD
  rw [List.getD_eq_getElem?_getD, List.getElem?_eq_getElem (by omega : i.toNat < ns.length)]; rfl
theorem atD_nat {ns : List Int} {i : Nat} {d : Int} (h : ns[i]? = some d) : atD ns (i : Int) = d := by
  unfold atD
  rw [Int.toNat_natCast, List.getD_eq_getElem?_getD, h]; rfl
theorem atD_at {ns : List Int} {i : Int} (h0 : 0 ≤ i) (h1 : i < ns.length) : atI (ns.map V.int) i = some (.int (atD ns i)) := by
  have h := atI_nat (α := V) (xs := ns.map V.int) (j := i.toNat) (v := .int (atD ns i)) (by rw [List.getElem?_map, atD_get h0 h1]; rfl)
  rwa [Int.toNat_of_nonneg h0] at h
theorem map_erase {α β : Type} {f : α → β} : ∀ (ns : List α) (k : Nat), (ns.eraseIdx k).map f = (ns.map f).eraseIdx k
  | [], _ => rfl
  | _ :: _, 0 => rfl
  | n :: r, k + 1 => by
    show f n :: (r.eraseIdx k).map f = f n :: (r.map f).eraseIdx k
    rw [map_erase r k]
theorem atD_mem {ns : List Int} {i : Int} (h0 : 0 ≤ i) (h1 : i < ns.length) : atD ns i ∈ ns := List.mem_of_getElem? (atD_get h0 h1)
section
variable {L R R' : Lg} {σ σ0 : SS} {Q : VK} {K : PySem.W.Frag} {a b p : Addr} {ns ms : List Int} {m n : Int}
theorem t_ixI (hp : Pick p (.lst (ns.map V.int)) L R) (h0 : 0 ≤ m) (h1 : m < ns.length) (k : Tr L fun H => Q (.int (atD ns m)) H) : Tr L fun H => rIxL K (.ref p) (.int m) H Q := t_ixL hp (atD_at h0 h1) k
theorem t_lenI (hp : Pick p (.lst (ns.map V.int)) L R) (k : Tr L fun H => Q (.int ns.length) H) : Tr L fun H => rLen K [.ref p] H Q := t_lenL hp (by rw [List.length_map]; exact k)
theorem t_slI {lo hi : Option Int} (hp : Pick a (.lst (ns.map V.int)) L R) (k : ∀ p, Tr ((p, .lst ((cutI ns lo hi).map V.int)) :: L) fun H => Q (.ref p) H) : Tr L fun H => rSlL K (.ref a) lo hi H Q := t_slL hp fun p => Tr.lcast (cut_ints ns lo hi) (k p)
theorem t_catI (hp : Pick a (.lst (ns.map V.int)) L R) (hq : Pick b (.lst (ms.map V.int)) L R') (hz : ns.length + ms.length ≤ sizeLine) (k : ∀ p, Tr ((p, .lst ((ns ++ ms).map V.int)) :: L) fun H => Q (.ref p) H) : Tr L fun H => rCat (.ref a) (.ref b) H Q :=
  t_cat hp hq (by rw [List.length_map, List.length_map]; exact hz) fun p => Tr.lcast List.map_append.symm (k p)
theorem t_revI (hp : Pick a (.lst (ns.map V.int)) L R) (k : ∀ p, Tr ((p, .lst (ns.reverse.map V.int)) :: L) fun H => Q (.ref p) H) : Tr L fun H => newRev K (.ref a) H Q := t_newRev hp fun p => Tr.lcast List.map_reverse.symm (k p)
theorem t_rgI {m n : Int} (h : RgOk m n) (k : ∀ p, Tr ((p, .lst ((rgI m n).map V.int)) :: L) fun H => Q (.ref p) H) : Tr L fun H => newRg m n H Q := t_newRg h fun p => Tr.lcast (rgV_ints m n) (k p)
theorem t_listI (hp : Pick a (.lst (ns.map V.int)) L R) (k : ∀ p, Tr ((p, .lst (ns.map V.int)) :: L) fun H => Q (.ref p) H) : Tr L fun H => rList K [.ref a] H Q := t_listL hp k
/-- a new list of ints, item by item -/
theorem t_newI (ns : List Int) (hz : ns.length ≤ sizeLine) (k : ∀ p, Tr ((p, .lst (ns.map V.int)) :: L) fun H => Q (.ref p) H) : Tr L fun H => newL (ns.map V.int) H Q := t_newL (by rw [List.length_map]; exact hz) k
theorem t_setI {i : Int} {v : Int} {G : Hp → Prop} (hp : Pick p (.lst (ns.map V.int)) L R) (h0 : 0 ≤ i) (h1 : i < ns.length) (k : Tr ((p, .lst ((ns.set i.toNat v).map V.int)) :: R) G) : Tr L fun H => rSetL (.ref p) (.int i) (.int v) H G :=
  t_setL (j := i.toNat) hp (by unfold ixN; rw [List.length_map]; first | rfl | (split <;> simp_all <;> omega)) (Tr.lcast List.map_set.symm k)
/-- n in xs, ints -/
theorem inV_ints (n : Int) : ∀ ns : List Int, inV (.int n) (ns.map V.int) = decide (n ∈ ns)
  | [] => rfl
  | m :: r => by
    have ih := inV_ints n r
    unfold inV at ih ⊢
    rw [List.map_cons, List.any_cons, ih]
    have e : eqV (.int m) (.int n) = decide (n = m) := by
      unfold eqV
      rw [Bool.eq_iff_iff, decide_eq_true_eq, beq_iff_eq]; exact eq_comm
    rw [e, ← Bool.decide_or]
    congr 1
    simp
theorem flat_ints (ns : List Int) : (ns.map V.int).all flatV = true := by
  induction ns with
  | nil => rfl
  | cons n r ih => rw [List.map_cons, List.all_cons, ih]; rfl
theorem t_inI (hp : Pick p (.lst (ns.map V.int)) L R) (k : Tr L fun H => Q (.bl (decide (n ∈ ns))) H) : Tr L fun H => rIn K false (.int n) (.ref p) H Q :=
  fun H l => ⟨p, _, rfl, .inl (sqL hp l), rfl, flat_ints ns, by rw [inV_ints]; exact k H l⟩
theorem t_notInI (hp : Pick p (.lst (ns.map V.int)) L R) (k : Tr L fun H => Q (.bl (!decide (n ∈ ns))) H) : Tr L fun H => rIn K true (.int n) (.ref p) H Q :=
  fun H l => ⟨p, _, rfl, .inl (sqL hp l), rfl, flat_ints ns, by rw [inV_ints]; exact k H l⟩
theorem t_neInts {xs ys : List Int} (ha : (a, .lst (xs.map V.int)) ∈ L) (hb : (b, .lst (ys.map V.int)) ∈ L) (k : Tr L fun H => Q (.bl (!decide (xs = ys))) H) : Tr L fun H => rNeD K (.ref a) (.ref b) H Q :=
  t_neD (Dt.ints ha).dpl (Dt.ints hb).dpl (shaped_ints xs) (shaped_ints ys) (by rw [eqv_ints]; exact k)
/-- tuples of ints -/
theorem eqv_intsT (xs ys : List Int) : PyData.eqv (.tuple (xs.map PyData.int)) (.tuple (ys.map PyData.int)) = decide (xs = ys) := by
  have h := eqv_ints xs ys
  simp only [PyData.eqv] at h ⊢
  exact h
theorem shaped_intsT (ns : List Int) : SeqAt.shaped (.tuple (ns.map PyData.int)) = true := by
  have c : ∀ ns : List Int, PyData.canLayAll0 (ns.map PyData.int) = true := by
    intro ns
    induction ns with
    | nil => simp [PyData.canLayAll0]
    | cons n r ih => simp [PyData.canLayAll0, PyData.canLay0, ih]
  unfold SeqAt.shaped
  simp [PyData.canLay0, c, PyData.depth, depthAll_ints]
theorem t_eqIntsT {xs ys : List Int} (ha : (a, .tup (xs.map V.int)) ∈ L) (hb : (b, .tup (ys.map V.int)) ∈ L) (k : Tr L fun H => Q (.bl (decide (xs = ys))) H) : Tr L fun H => rEqD K (.ref a) (.ref b) H Q :=
  t_eqD (Dt.intsT ha).dpl (Dt.intsT hb).dpl (shaped_intsT xs) (shaped_intsT ys) (by rw [eqv_intsT]; exact k)
theorem t_neIntsT {xs ys : List Int} (ha : (a, .tup (xs.map V.int)) ∈ L) (hb : (b, .tup (ys.map V.int)) ∈ L) (k : Tr L fun H => Q (.bl (!decide (xs = ys))) H) : Tr L fun H => rNeD K (.ref a) (.ref b) H Q :=
  t_neD (Dt.intsT ha).dpl (Dt.intsT hb).dpl (shaped_intsT xs) (shaped_intsT ys) (by rw [eqv_intsT]; exact k)
/-- xs.insert(i, y) -/
def rInsert : V → List V → Hp → VK → Prop := fun x vs H Q => ∃ (l : Addr) (xs : List V) (i : Int) (y : V), x = .ref l ∧ vs = [.int i, y] ∧ H l = some (.lst xs) ∧ xs.length < sizeLine ∧ 0 ≤ i ∧ i < 2 ^ 63 ∧
    Q .non (upd H l (.lst (xs.take i.toNat ++ [y] ++ xs.drop i.toNat)))
theorem mt_ins {X : Cx} : MtR X "list.insert" rInsert := mt_insert
theorem t_insI {i v : Int} (hp : Pick p (.lst (ns.map V.int)) L R) (hz : ns.length < sizeLine) (h0 : 0 ≤ i) (h1 : i < 2 ^ 63) (k : Tr ((p, .lst ((ns.take i.toNat ++ [v] ++ ns.drop i.toNat).map V.int)) :: R) fun H => Q .non H) : Tr L fun H => rInsert (.ref p) [.int i, .int v] H Q :=
  fun H l => ⟨p, _, i, _, rfl, rfl, l.get hp, by rw [List.length_map]; exact hz, h0, h1, by
    have := k _ (l.pick hp).put
    rw [List.map_append, List.map_append, List.map_take, List.map_drop] at this
    exact this⟩
theorem t_popAtI {i : Int} (hp : Pick p (.lst (ns.map V.int)) L R) (h0 : 0 ≤ i) (h1 : i < ns.length) (h2 : ns.length ≤ sizeLine) (k : Tr ((p, .lst ((ns.eraseIdx i.toNat).map V.int)) :: R) fun H => Q (.int (atD ns i)) H) : Tr L fun H => rPopAt (.ref p) [.int i] H Q :=
  fun H l => ⟨p, _, i, i.toNat, .int (atD ns i), rfl, rfl, l.get hp, by omega, by rw [sizeLine_eq] at h2; omega, by
    unfold seqIndex?
    rw [List.length_map]
    simp only [show ¬ i < 0 by omega, if_false]
    rw [if_pos (by simp; omega)], by rw [List.getElem?_map, atD_get h0 h1]; rfl, by
    have := k _ (l.pick hp).put
    rwa [map_erase] at this⟩
end
section
variable {L : Lg} {G1 G2 : Hp → Prop} {c : Prop} [Decidable c]
theorem t_ifDT (h : c) (k : Tr L G1) : Tr L fun H => if decide c = true then G1 H else G2 H := t_ifT (decide_eq_true h) k
theorem t_ifDF (h : ¬ c) (k : Tr L G2) : Tr L fun H => if decide c = true then G1 H else G2 H := t_ifF (decide_eq_false h) k
theorem t_ifNT (h : ¬ c) (k : Tr L G1) : Tr L fun H => if (!decide c) = true then G1 H else G2 H := t_ifT (by rw [decide_eq_false h]; rfl) k
theorem t_ifNF (h : c) (k : Tr L G2) : Tr L fun H => if (!decide c) = true then G1 H else G2 H := t_ifF (by rw [decide_eq_true h]; rfl) k
theorem t_ifR {α : Type} [DecidableEq α] {x : α} (k : Tr L G1) : Tr L fun H => if decide (x = x) = true then G1 H else G2 H := t_ifDT rfl k
theorem t_ifNR {α : Type} [DecidableEq α] {x : α} (k : Tr L G2) : Tr L fun H => if (!decide (x = x)) = true then G1 H else G2 H := t_ifNF rfl k
end
theorem cutI_from {ns : List Int} {i : Int} (h0 : 0 ≤ i) (h1 : i ≤ ns.length) : cutI ns (some i) none = ns.drop i.toNat := by
  unfold cutI
  have e : HT.sIx ns.length 0 (some i) = i.toNat := by
    show (if i < 0 then _ else min i.toNat ns.length) = i.toNat
    rw [if_neg (by omega)]; omega
  rw [e]
  show (ns.drop i.toNat).take (ns.length - i.toNat) = ns.drop i.toNat
  exact List.take_of_length_le (by rw [List.length_drop]; omega)
theorem cutI_to {ns : List Int} {i : Int} (h0 : 0 ≤ i) (h1 : i ≤ ns.length) : cutI ns none (some i) = ns.take i.toNat := by
  unfold cutI
  have e : HT.sIx ns.length ns.length (some i) = i.toNat := by
    show (if i < 0 then _ else min i.toNat ns.length) = i.toNat
    rw [if_neg (by omega)]; omega
  rw [e]
  show ((ns.drop 0).take (i.toNat - 0)) = ns.take i.toNat
  rw [List.drop_zero, Nat.sub_zero]
/-! ### filtered comprehensions -/
/-- of the first i turns those that b keeps, told by o -/
def fl {α : Type} (b : Nat → Bool) (o : Nat → α) (i : Nat) : List α := ((List.range i).filter b).map o
theorem fl_succ {α : Type} (b : Nat → Bool) (o : Nat → α) (i : Nat) : fl b o (i + 1) = if b i = true then fl b o i ++ [o i] else fl b o i := by
  unfold fl
  rw [List.range_succ, List.filter_append, List.map_append]
  cases h : b i <;> simp [h]
theorem fl_len {α : Type} (b : Nat → Bool) (o : Nat → α) (i : Nat) : (fl b o i).length ≤ i := by
  unfold fl
  rw [List.length_map]
  exact Nat.le_trans (List.length_filter_le _ _) (by rw [List.length_range]; exact Nat.le_refl _)
section
variable {L : Lg} {σ σ0 : SS} {g : TG} {tt : TT} {te : TE} {vs : List Nat} {Q : VK} {b : Nat → Bool} {o : Nat → V} {D : Addr} {i : Nat} {M R2 : Lg}
def lcFl (L : Lg) (b : Nat → Bool) (o : Nat → V) (D : Addr) (i : Nat) : Hp → Prop := lcNx (fun _ (_ : Unit) => L) (fun i _ => fl b o i) (fun _ _ => True) D i
theorem t_lcFlA {v : V} {n : Nat} (hn : i < n) (hz : n ≤ sizeLine) (hb : b i = true) (hv : v = o i) (hp : Pick D (.lst (fl b o i)) M R2) (hM : Sub R2 L) : Tr M fun H => lcAdd D (lcFl L b o D (i + 1)) v H := by
  refine t_lcAdd () trivial hp ?_ (by rw [fl_succ, if_pos hb, hv]) hM
  have := fl_len b o i
  omega
theorem t_lcFlS (hb : b i = false) (hp : Pick D (.lst (fl b o i)) M R2) (hM : Sub R2 L) : Tr M fun H => lcFl L b o D (i + 1) H := by
  refine t_lcSkip () trivial ?_
  have e : fl b o (i + 1) = fl b o i := by rw [fl_succ, if_neg (by rw [hb]; decide)]
  show Sub M ((D, .lst (fl b o (i + 1))) :: L)
  rw [e]
  exact .take hp hM
theorem t_lcFil {J : It} {n : Nat} {val : Nat → V → Lg → Prop} {Src : Lg → Prop} (wk : Wk J n val Src) (hw : wipe σ vs = σ0) (b : Nat → Bool) (o : Nat → V) (hsrc : ∀ x, Src (x :: L))
    (hs : ∀ D i v L', i < n → val i v L' → Tr (L' ++ (D, .lst (fl b o i)) :: L) fun H => g v σ0 H fun σ2 H2 => wipe σ2 vs = σ0 ∧ tt σ2 H2 fun c H3 => if c = true then te σ2 H3 (lcAdd D (lcFl L b o D (i + 1))) else lcFl L b o D (i + 1) H3)
    (hd : ∀ D, Tr ((D, .lst (fl b o n)) :: L) fun H => Q (.ref D) H) : Tr L fun H => lcK g tt te vs σ Q J H :=
  t_lcK wk hw (fun _ (_ : Unit) => L) (fun i _ => fl b o i) (fun _ _ => True) ⟨(), trivial, rfl, .refl⟩ (fun D i y _ => hsrc _) (fun D i y v L' hi _ hv => hs D i v L' hi hv) fun D y _ => hd D
theorem fl_ints (b : Nat → Bool) (o : Nat → Int) (i : Nat) : fl b (fun k => V.int (o k)) i = (fl b o i).map V.int := by unfold fl; rw [List.map_map]; rfl
end
end Hz
namespace Hz
open PySem PySem.Spec PyProof.Rows L2 RZ
/-! ### while, the test may change the heap -/
section
variable {L : Lg} {σ : SS} {D : Ends} {tc : TT} {tb : TS}
variable {α : Type} {S : α → SS} {M : α → Lg} {I : α → Prop} {μ : α → Nat} {n : Nat}
/-- behind the test of a while -/
def whB (tb : TS) (D : Ends) (S : α → SS) (M : α → Lg) (I : α → Prop) (μ : α → Nat) (n : Nat) (σ : SS) (b : Bool) (H : Hp) : Prop :=
  if b = true then ∃ N : SS → Hp → Prop, (∀ σ' H', N σ' H' → ∃ m', m' < n ∧ ∃ y, m' = μ y ∧ I y ∧ σ' = S y ∧ Led H' (M y)) ∧ tb { D with nx := N, ct := N, bk := D.nx } σ H else D.nx σ H
theorem t_whBT (k : Tr L fun H => tb { D with nx := Wst S M I μ n, ct := Wst S M I μ n, bk := D.nx } σ H) : Tr L fun H => whB tb D S M I μ n σ true H := fun H l => by
  refine iteT ?_
  exact ⟨_, fun σ3 H3 ⟨z, iz, lt, e, lz⟩ => ⟨μ z, lt, z, rfl, iz, e, lz⟩, k H l⟩
theorem t_whBF (k : Tr L fun H => D.nx σ H) : Tr L fun H => whB tb D S M I μ n σ false H := fun H l => by
  exact iteF (k H l)
theorem t_whB {c : Prop} [Decidable c] (h1 : c → Tr L fun H => tb { D with nx := Wst S M I μ n, ct := Wst S M I μ n, bk := D.nx } σ H) (h2 : ¬ c → Tr L fun H => D.nx σ H) : Tr L fun H => whB tb D S M I μ n σ (decide c) H := by
  by_cases h : c
  · rw [decide_eq_true h]; exact t_whBT (h1 h)
  · rw [decide_eq_false h]; exact t_whBF (h2 h)
theorem t_whG (S : α → SS) (M : α → Lg) (I : α → Prop) (μ : α → Nat) (h0 : ∃ y, I y ∧ σ = S y ∧ Sub L (M y)) (hs : ∀ y, I y → Tr (M y) fun H => tc (S y) H (whB tb D S M I μ (μ y) (S y))) : Tr L fun H => tWhile tc tb D σ H := by
  intro H l
  obtain ⟨y0, i0, e0, s0⟩ := h0
  refine ⟨fun m σ' H' => ∃ y, m = μ y ∧ I y ∧ σ' = S y ∧ Led H' (M y), ⟨μ y0, y0, rfl, i0, e0, l.sub s0⟩, ?_⟩
  rintro m σ' H' ⟨y, rfl, iy, rfl, ly⟩
  exact hs y iy H' ly
end
end Hz
namespace Hz
open PySem PySem.Spec PyProof.Rows L2 RZ
/-- two ways come together: a new list of ints at p, o otherwise known -/
theorem t_joinO {L : Lg} {G : Hp → Prop} {T : Addr → Hp → Prop} (X : List Int → Addr → HO → Lg) (J : List Int → HO → Prop) (k : (∀ ds p o M, J ds o → Sub M (X ds p o) → Tr M (T p)) → Tr L G)
    (main : ∀ ds p o, J ds o → Tr (X ds p o) (T p)) : Tr L G := k fun ds p o M h s => (main ds p o h).sub s
/-- two ways come together: o otherwise known -/
theorem t_join1 {L : Lg} {G : Hp → Prop} {T : Hp → Prop} (X : HO → Lg) (J : HO → Prop) (k : (∀ o M, J o → Sub M (X o) → Tr M T) → Tr L G) (main : ∀ o, J o → Tr (X o) T) : Tr L G := k fun o M h s => (main o h).sub s
/-- two ways come together -/
theorem t_join0 {L : Lg} {G : Hp → Prop} {T : Hp → Prop} (X : Lg) (k : (∀ M, Sub M X → Tr M T) → Tr L G) (main : Tr X T) : Tr L G := k fun M s => main.sub s
/-- two ways come together: an int -/
theorem t_joinI {L : Lg} {G : Hp → Prop} {T : Int → Hp → Prop} (X : HO → Lg) (J : Int → HO → Prop) (k : (∀ i o M, J i o → Sub M (X o) → Tr M (T i)) → Tr L G) (main : ∀ i o, J i o → Tr (X o) (T i)) : Tr L G := k fun i o M h s => (main i o h).sub s
end Hz
namespace Hz
open PySem PySem.Spec PyProof.Rows L2 RZ
section
variable {L R : Lg} {σ : SS} {Q : VK} {K : PySem.W.Frag} {a : Addr} {ns : List Int} {xs : List V}
theorem t_sortI (hp : Pick a (.lst (ns.map V.int)) L R) (k : ∀ (ns' : List Int) p, ns'.Perm ns → ns'.Pairwise (· ≤ ·) → Tr ((p, .lst (ns'.map V.int)) :: L) fun H => Q (.ref p) H) : Tr L fun H => rSortedI K [.ref a] H Q :=
  fun H l => ⟨a, ns, rfl, sqL hp l, fun ns' p h1 h2 hp' => k ns' p h1 h2 _ (l.new hp')⟩
theorem first_idx {ns : List Int} {y : Int} (h : y ∈ ns) : ∃ j : Nat, ns[j]? = some y ∧ ∀ m : Nat, m < j → ns[m]? ≠ some y := by
  induction ns with
  | nil => cases h
  | cons n r ih =>
    by_cases e : n = y
    · exact ⟨0, by rw [e]; rfl, fun m hm => by omega⟩
    · obtain ⟨j, h1, h2⟩ := ih (by
        rcases List.mem_cons.mp h with h | h
        · exact absurd h.symm e
        · exact h)
      refine ⟨j + 1, by simpa using h1, fun m hm => ?_⟩
      cases m with
      | zero => simpa using e
      | succ m => simpa using h2 m (by omega)
theorem t_indexI {y : Int} (hp : Pick a (.lst (ns.map V.int)) L R) (h : y ∈ ns) (k : ∀ j : Nat, ns[j]? = some y → Tr L fun H => Q (.int (j : Nat)) H) : Tr L fun H => rIndex K (.ref a) [.int y] H Q := by
  obtain ⟨j, h1, h2⟩ := first_idx h
  refine fun H l => ⟨a, ns.map V.int, .int y, j, .int y, rfl, rfl, sqL hp l, rfl, flat_ints ns, by rw [List.getElem?_map, h1]; rfl, (show (y == y) = true from beq_self_eq_true y), fun m z' hm hz => ?_, k j h1 H l⟩
  rw [List.getElem?_map] at hz
  cases e : ns[m]? with
  | none => rw [e] at hz; cases hz
  | some w =>
    rw [e] at hz
    cases hz
    show (w == y) = false
    have := h2 m hm
    rw [e] at this
    simpa using this
theorem t_lstG {n : Nat} {gs : TGs} {Qn : SS → Hp → Prop} (hp : Pick a (.lst xs) L R) (hn : xs.length = n) (k : Tr L fun H => gs xs σ H Qn) : Tr L fun H => gLst K n gs (.ref a) σ H Qn := fun H l => ⟨a, xs, rfl, sqL hp l, hn, k H l⟩
theorem fl_none {α : Type} (o : Nat → α) (n : Nat) : fl (fun _ => false) o n = [] := by unfold fl; rw [List.filter_eq_nil_iff.mpr (fun _ _ => by decide)]; rfl
theorem fl_all {α : Type} (o : Nat → α) (n : Nat) : fl (fun _ => true) o n = (List.range n).map o := by unfold fl; rw [List.filter_eq_self.mpr (fun _ _ => rfl)]
end
end Hz
namespace Hz
open PySem PySem.Spec PyProof.Rows L2 RZ
/-- two ways come together: an int, the heap as it was -/
theorem t_joinE {L : Lg} {G : Hp → Prop} {T : Int → Hp → Prop} (X : Lg) (J : Int → Prop) (k : (∀ i M, J i → Sub M X → Tr M (T i)) → Tr L G) (main : ∀ i, J i → Tr X (T i)) : Tr L G := k fun i M h s => (main i h).sub s
theorem rg_at {a b d : Int} (h0 : 0 ≤ d) (h1 : d < b - a) : atD (rgI a b) d = a + d := by
  have := atD_nat (rgI_get (a := a) (b := b) (i := d.toNat) (by omega))
  rwa [Int.toNat_of_nonneg h0] at this
end Hz
namespace Hz
open PySem PySem.Spec PyProof.Rows L2 RZ
/-- two ways come together ahead of a loop over range(e) -/
theorem t_joinR {L : Lg} {G : Hp → Prop} {g : TG} {tb : TS} {D : Ends} {σ : SS} (X : Lg) (J : Int → Prop) (k : (∀ i M, J i → Sub M X → Tr M (forK g tb D σ (Itr 0 i.toNat))) → Tr L G) (main : ∀ i, J i → Tr X (forK g tb D σ (Itr 0 i.toNat))) : Tr L G := k fun i M h s => (main i h).sub s
end Hz

/-! Hz, part S: a list's slice is stored, with open ends. -/
namespace Hz
open PySem PySem.Spec PyProof.Rows L2 RZ PySem.W
section
variable {prog : Program} {w : World} {A : Around} {s : Shared} {E : Value → Shared → Prop}
theorem bounds_open (n : Nat) : sliceBounds none none none n = (((0 : Nat) : Int), (n : Int), 1) := by
  simp only [sliceBounds, Option.getD_none]
  rfl
theorem bounds_from {a n : Nat} (h : a ≤ n) : sliceBounds (some (a : Int)) none none n = ((a : Int), (n : Int), 1) := by
  simp only [sliceBounds, Option.getD_none]
  have h1 : ¬ ((a : Int) < 0) := by omega
  simp only [h1, if_false, show (1 : Int) > 0 by decide, if_true]
  congr 1
  omega
/-- the store at the level of values: the bounds are told -/
theorem store_slice {l b sl : Addr} {items new : Array Value} {n n2 a c : Nat} {vl vu : Value} {lo hi : Option Int} {Q : Unit → Shared → Prop}
    (e : s.heap.get? l = some { cls := .type "list", data := .seq items n }) (e2 : s.heap.get? b = some { cls := .type "list", data := .seq new n2 }) (hne : l ≠ b)
    (hs : s.heap.IsSliceOf sl vl vu .none) (pl : IsPart vl lo) (pu : IsPart vu hi) (hb : sliceBounds lo hi none items.size = ((a : Int), (c : Int), 1)) (hac : a ≤ c) (hc : c ≤ items.size)
    (hsz : items.size + new.size ≤ sizeLine) (h : Q () { s with heap := s.heap.update l (Obj.mapSeq fun xs => xs.extract 0 a ++ new ++ xs.extract c xs.size) }) :
    wpAny (model prog w) A (setItem (.ref l) (.ref sl) (.ref b)) Q E s := by
  have tl : s.heap.IsList l items := PySem.IsL.isList e
  have tb : s.heap.IsList b new := PySem.IsL.isList e2
  obtain ⟨os, o1, o2, o3⟩ := id hs
  have ts : s.TypeIs (.ref sl) "slice" := ⟨os, o1, o2⟩
  have same : Builtin.List.listSameRef (.ref l) (.ref b) = false := by
    unfold Builtin.List.listSameRef
    exact beq_eq_false_iff_ne.mpr hne
  have big : ((fun xs : Array Value => xs.extract 0 a ++ new ++ xs.extract c xs.size) items).size ≤ sizeLine + 1 := by
    simp only [Array.size_append, Array.size_extract]
    omega
  unfold setItem
  try with_reducible refine wpAny_holding ?_
  first | refine wpAny_bind (wpAny_pure ?_) | skip
  refine wpAny_bind (wpAny_sequenceKey tl.typeIs (by decide) (wpAny_bind (wpAny_callSpecial?_slot (name := Str.ofString "__setitem__") tl.typeIs slot_list_setitem
    (wpAny_call_entry slot_list_setitem tl.typeIs entry_list_setitem ?_ (args_list_setitem _ _ _)))))
  show wpAny _ _ (Builtin.List.listSubscript? (.ref sl) >>= _) _ _ s
  refine wpAny_bind ?_
  unfold Builtin.List.listSubscript?
  refine wpAny_bind (wpAny_specialOf ts slice_no_index ?_)
  simp only [Option.isNone_none, if_true]
  refine wpAny_pure ?_
  show wpAny _ _ (typeOf (.ref sl) >>= _) _ _ s
  refine wpAny_bind (wpAny_typeOf ts ?_)
  first
    | rw [if_neg (by decide)]
    | refine PySem.W.KFB.if_not (by decide) ?_
  rw [listSliceParts_eq]
  refine wpAny_bind (wpAny_bind (wpAny_field o1 o3 (x := .none) rfl (wpAny_bind (wpAny_listPart .none ?_))))
  rw [if_neg (show ¬ ((rawPart none == rawInt 0) = true) from Bool.false_ne_true)]
  refine wpAny_bind (wpAny_field o1 o3 (x := vl) rfl (wpAny_bind (wpAny_listPart pl (wpAny_bind (wpAny_field o1 o3 (x := vu) rfl (wpAny_bind (wpAny_listPart pu (wpAny_pure ?_))))))))
  first
    | simp only [same, Bool.false_eq_true, if_false]
    | refine PySem.W.KFB.if_not same ?_
    | (dsimp only
       rw [if_neg (by rw [same]; exact Bool.false_ne_true)])
  refine wpAny_bind (m := Builtin.List.listAllItems (.ref b) "must assign iterable to extended slice") ?_
  unfold Builtin.List.listAllItems
  refine wpAny_bind (wpAny_typeOf tb.typeIs ?_)
  first
    | refine PySem.W.KFB.if_so (by decide) ?_
    | rw [if_pos (by decide)]
    | simp only [beq_self_eq_true, Bool.true_or, if_true]
  unfold Builtin.List.listItems
  refine wpAny_bind (wpAny_seqItems e2 rfl (wpAny_pure ?_))
  refine wpAny_bind (wpAny_bind (wpAny_seqItems e rfl (wpAny_pure ?_)))
  refine wpAny_bind (wpAny_of_eq ((sliceIndices_raw lo hi none items.size (by simp)).trans (congrArg (pure : Int × Int × Int → Sem (Int × Int × Int)) hb)) ?_)
  show wpAny _ _ (if ((1 : Int) == 1) = true then _ else _) _ _ s
  rw [if_pos (by decide)]
  refine wpAny_bind (wpAny_rule ?_)
  first
    | simp only [notLongL hsz, Bool.false_eq_true, if_false]
    | refine PySem.W.KFB.if_not (notLongL hsz) ?_
  first | refine wpAny_bind (wpAny_pure ?_) | skip
  show wpAny _ _ (updateSeq l (fun xs => xs.extract 0 ((a : Int)).toNat ++ new ++ xs.extract (max (a : Int) (c : Int)).toNat xs.size) >>= _) _ _ s
  rw [show (max (a : Int) (c : Int)).toNat = c by omega, Int.toNat_natCast]
  refine wpAny_bind (wpAny_updateSeq (hz := Nat.le_trans (Nat.le_add_right _ _) hsz) (_hz' := big) e rfl ?_)
  refine wpAny_bind (wpAny_letGo ?_)
  first
    | exact wpAny_bind (wpAny_pure (wpAny_pure ⟨.none, rfl, wpAny_pure h⟩))
    | exact wpAny_pure ⟨.none, rfl, wpAny_pure h⟩
end
/-- xs[lo:hi] = ys : the bounds are told -/
def rSetSl (o : V) (lo hi : Option Int) (v : V) (H : Hp) (G : Hp → Prop) : Prop := ∃ l b xs ys a c, o = .ref l ∧ v = .ref b ∧ H l = some (.lst xs) ∧ H b = some (.lst ys) ∧ l ≠ b ∧
  sliceBounds lo hi none xs.length = (((a : Nat) : Int), ((c : Nat) : Int), 1) ∧ a ≤ c ∧ c ≤ xs.length ∧ xs.length + ys.length ≤ sizeLine ∧ G (upd H l (.lst (xs.take a ++ ys ++ xs.drop c)))
def gSl (to : TE) (tl th : TO) : TG := fun v σ H Q => to σ H fun o H1 => tl σ H1 fun lo H2 => th σ H2 fun hi H3 => rSetSl o lo hi v H3 fun H4 => Q σ H4
section
variable {X : Cx}
theorem pg_slice {o : Expr} {lo hi : Option Expr} {to : TE} {tl th : TO} {pos p2 : Pos} (ho : PE X o to) (hl : PO X lo tl) (hu : PO X hi th)
    (ha : ∀ v, assign (.Subscript o (.Slice lo hi none p2) pos) X.env v = (do
      let ov ← holding [v] (eval o X.env)
      let iv ← holding [v, ov] (eval (.Slice lo hi none p2) X.env)
      standAt pos
      holding [v, ov, iv] (setItem ov iv v)
      release [iv, v, ov] []) := by intro _; rfl) : PG X (.Subscript o (.Slice lo hi none p2) pos) (gSl to tl th) := by
  refine ⟨fun pins s σ H v u Q I r h => ?_⟩
  rw [ha]
  refine wpAny_bind (wpAny_holding (thn (ho.run pins s σ H _ I h) fun ov s1 ⟨x, H1, I1, r1, q1⟩ => ?_))
  refine wpAny_bind (wpAny_holding (wpAny_Slice (thn (hl.run pins s1 σ H1 _ I1 q1) fun vl s2 ⟨l, H2, I2, pl, q2⟩ => thn (hu.run pins s2 σ H2 _ I2 q2) fun vu s3 ⟨u', H3, I3, pu, q3⟩ => ?_)))
  rw [evalPart_none]
  refine wpAny_pure ?_
  have I4 : Inv X pins σ H3 { s3 with heap := s3.heap.push { cls := .type "slice", data := .fields #[vl, vu, .none] } } := I3.kept (t' := s3.toks) fun b ob q => Heap.get?_push_of_some _ q
  obtain ⟨l', b, xs, ys, a, c, rfl, rfl, hH, hB, hne, hb, hac, hc, hz, q⟩ := q3
  cases r1
  cases r
  obtain ⟨z, its, n, rv, hlen, e⟩ := I4.lstM hH
  obtain ⟨z2, its2, n2, r2, hlen2, e2⟩ := I4.lstM hB
  refine wpAny_bind (wpAny_standAt (wpAny_bind (wpAny_holding ?_)))
  have sz : its.toArray.size = xs.length := by rw [List.size_toArray]; omega
  refine store_slice (a := a) (c := c) e e2 hne (Heap.IsSliceOf.new ..) pl pu (by rw [sz]; exact hb) hac (by rw [sz]; exact hc) (by rw [sz, List.size_toArray]; omega) ?_
  refine wpAny_release ⟨σ, _, ?_, q⟩
  refine I4.lset (its' := its.take a ++ its2 ++ its.drop c) (t' := s3.toks) hH e ?_ (Vals.append (Vals.append (rv.take _) r2) (rv.drop _)) ?_
  · exact splice_eq its its2 a c
  · rw [List.length_append, List.length_append, List.length_take, List.length_drop]
    omega
end
section
variable {L R R' : Lg} {σ : SS} {l b : Addr} {ns ms : List Int} {G : Hp → Prop}
theorem t_gSl {to : TE} {tl th : TO} {v : V} {Qn : SS → Hp → Prop} (k : Tr L fun H => to σ H fun o H1 => tl σ H1 fun lo H2 => th σ H2 fun hi H3 => rSetSl o lo hi v H3 fun H4 => Qn σ H4) : Tr L fun H => gSl to tl th v σ H Qn := k
theorem ne_led {H : Hp} {L R R' : Lg} {a b : Addr} {o o' : HO} (l : Led H L) (p : Pick a o L R) (q : Pick b o' R R') : a ≠ b := by
  intro e
  subst e
  have n := (List.nodup_cons.mp (l.pick p).nd).1
  exact n (List.mem_map.mpr ⟨_, q.mem, rfl⟩)
/-- xs[:] = ys -/
theorem t_setAll (hp : Pick l (.lst (ns.map V.int)) L R) (hq : Pick b (.lst (ms.map V.int)) R R') (hz : ns.length + ms.length ≤ sizeLine) (k : Tr ((l, .lst (ms.map V.int)) :: R) G) : Tr L fun H => rSetSl (.ref l) none none (.ref b) H G := fun H h =>
  ⟨l, b, _, _, 0, ns.length, rfl, rfl, h.get hp, (h.pick hp).tail.get hq, ne_led h hp hq, by rw [List.length_map]; exact bounds_open _, Nat.zero_le _, by rw [List.length_map]; exact Nat.le_refl _, by rw [List.length_map, List.length_map]; exact hz, by
    have e : (ns.map V.int).take 0 ++ ms.map V.int ++ (ns.map V.int).drop ns.length = ms.map V.int := by
      rw [List.take_zero, List.nil_append, List.drop_of_length_le (by rw [List.length_map]; exact Nat.le_refl _), List.append_nil]
    rw [e]
    exact k _ (h.pick hp).put⟩
/-- xs[i:] = ys -/
theorem t_setFrom {i : Int} (hp : Pick l (.lst (ns.map V.int)) L R) (hq : Pick b (.lst (ms.map V.int)) R R') (h0 : 0 ≤ i) (h1 : i ≤ ns.length) (hz : ns.length + ms.length ≤ sizeLine)
    (k : Tr ((l, .lst ((ns.take i.toNat ++ ms).map V.int)) :: R) G) : Tr L fun H => rSetSl (.ref l) (some i) none (.ref b) H G := fun H h =>
  ⟨l, b, _, _, i.toNat, ns.length, rfl, rfl, h.get hp, (h.pick hp).tail.get hq, ne_led h hp hq, by
      rw [List.length_map]
      have := bounds_from (a := i.toNat) (n := ns.length) (by omega)
      rw [Int.toNat_of_nonneg h0] at this ⊢
      exact this, by omega, by rw [List.length_map]; exact Nat.le_refl _, by rw [List.length_map, List.length_map]; exact hz, by
    have e : (ns.map V.int).take i.toNat ++ ms.map V.int ++ (ns.map V.int).drop ns.length = (ns.take i.toNat ++ ms).map V.int := by
      rw [List.drop_of_length_le (by rw [List.length_map]; exact Nat.le_refl _), List.append_nil, List.map_append, List.map_take]
    rw [e]
    exact k _ (h.pick hp).put⟩
end
end Hz

/-! Hz, part G: data with empty dicts; a ledger grown by what is new. -/
namespace Hz
open PySem PySem.Spec PyProof.Rows L2 RZ
/-! ### what repr reads: a dict may be no sys.modules -/
mutual
inductive Rq (h : Heap) : Value → PyData → Prop where
  | none : Rq h .none .none
  | bool (b : Bool) : Rq h (.bool b) (.bool b)
  | int (i : Int) (t : Nat) : Rq h (.int i t) (.int i)
  | str (x : Str) (t : Nat) : Rq h (.str x t) (.str x)
  | list {a : Addr} {o : Obj} {vs : Array Value} {n : Nat} {ds : List PyData} (g : h.get? a = some o) (c : o.cls = .type "list") (e : o.data = .seq vs n) (r : RqA h vs.toList ds) : Rq h (.ref a) (.list ds)
  | tuple {a : Addr} {o : Obj} {vs : Array Value} {n : Nat} {ds : List PyData} (g : h.get? a = some o) (c : o.cls = .type "tuple") (e : o.data = .seq vs n) (r : RqA h vs.toList ds) : Rq h (.ref a) (.tuple ds)
  | dict {a : Addr} {o : Obj} {es : Array DictEntry} {n : Nat} (g : h.get? a = some o) (c : o.cls = .type "dict") (e : o.data = .dict es n) (z : es.toList = []) (q : (a == sysModules) = false) : Rq h (.ref a) (.dict [])
inductive RqA (h : Heap) : List Value → List PyData → Prop where
  | nil : RqA h [] []
  | cons {v : Value} {vs : List Value} {d : PyData} {ds : List PyData} (r : Rq h v d) (q : RqA h vs ds) : RqA h (v :: vs) (d :: ds)
end
mutual
theorem Rq.reads {h : Heap} : ∀ {v : Value} {d : PyData}, Rq h v d → ∃ as, Reads h v d as
  | _, _, .none => ⟨_, .none⟩
  | _, _, .bool b => ⟨_, .bool b⟩
  | _, _, .int i t => ⟨_, .int i t⟩
  | _, _, .str x t => ⟨_, .str x t⟩
  | _, _, .list g c e r => let ⟨_, q⟩ := RqA.reads r; ⟨_, .list g c e q⟩
  | _, _, .tuple g c e r => let ⟨_, q⟩ := RqA.reads r; ⟨_, .tuple g c e q⟩
  | _, _, .dict (es := es) g c e z q => ⟨_, .dict (kvs := []) g c e (by rw [z]; exact .nil) (by rw [z]; exact .nil)⟩
theorem RqA.reads {h : Heap} : ∀ {vs : List Value} {ds : List PyData}, RqA h vs ds → ∃ as, ReadsAll h vs ds as
  | _, _, .nil => ⟨_, .nil⟩
  | _, _, .cons r q => let ⟨_, a⟩ := Rq.reads r; let ⟨_, b⟩ := RqA.reads q; ⟨_, .cons a b⟩
end
section
variable {P : Program} {w : World} {h : Heap}
theorem RqA.go {vs : List Value} {ds : List PyData} (F : ∀ v d, (v, d) ∈ vs.zip ds → d.showable = true → d.shown.length ≤ sizeLine → ∃ bs, ReadAtMost h d.depth bs ∧ ReprK P w bs h d.depth v d.shown) :
    RqA h vs ds → PyData.showableAll ds = true → (∀ t ∈ PyData.shownAll ds, t.length ≤ sizeLine) → ∃ bs, ReadAtMost h (PyData.depthAll ds) bs ∧ ReprAllK P w bs h (PyData.depthAll ds) vs (PyData.shownAll ds) := by
  induction vs generalizing ds with
  | nil =>
    intro r _ _
    cases r
    exact ⟨[], (fun _ z => nomatch z), by simp only [PyData.shownAll]; exact .nil⟩
  | cons v vs ih =>
    intro r hs hz
    cases r with
    | cons r q =>
      rename_i d ds
      simp only [PyData.showableAll, Bool.and_eq_true] at hs
      simp only [PyData.shownAll, List.mem_cons] at hz
      obtain ⟨b1, r1, k1⟩ := F v d (by simp) hs.1 (hz _ (.inl rfl))
      obtain ⟨b2, r2, k2⟩ := ih (fun v' d' m => F v' d' (by simp [m])) q hs.2 fun t ht => hz t (.inr ht)
      refine ⟨b1 ++ b2, fun b hb => ?_, ?_⟩
      · simp only [PyData.depthAll]
        rcases List.mem_append.mp hb with m | m
        · obtain ⟨d', as', x, y⟩ := r1 b m
          exact ⟨d', as', x, Nat.le_trans y (Nat.le_max_left _ _)⟩
        · obtain ⟨d', as', x, y⟩ := r2 b m
          exact ⟨d', as', x, Nat.le_trans y (Nat.le_max_right _ _)⟩
      · simp only [PyData.depthAll, PyData.shownAll]
        exact .cons ((k1.more fun b m => List.mem_append_left _ m).level_le (Nat.le_max_left _ _)) (k2.more_le (fun b m => List.mem_append_right _ m) (Nat.le_max_right _ _))
theorem rqa_at {vs : List Value} {ds : List PyData} {v : Value} {d : PyData} (r : RqA h vs ds) (m : (v, d) ∈ vs.zip ds) : Rq h v d := by
  induction vs generalizing ds with
  | nil => cases r; simp at m
  | cons x vs ih =>
    cases r with
    | cons r q =>
      simp only [List.zip_cons_cons, List.mem_cons, Prod.mk.injEq] at m
      rcases m with ⟨rfl, rfl⟩ | m
      · exact r
      · exact ih q m
theorem rqa_sz {vs : List Value} {ds : List PyData} {v : Value} {d : PyData} (m : (v, d) ∈ vs.zip ds) : sizeOf d < sizeOf ds := List.sizeOf_lt_of_mem (List.of_mem_zip m).2
theorem Rq.reprN : ∀ (N : Nat) {v : Value} {d : PyData}, sizeOf d ≤ N → Rq h v d → d.showable = true → d.shown.length ≤ sizeLine → ∃ bs, ReadAtMost h d.depth bs ∧ ReprK P w bs h d.depth v d.shown := by
  intro N
  induction N with
  | zero =>
    intro v d hN
    exfalso
    cases d <;> simp at hN <;> omega
  | succ N ihN =>
  intro v d hN r hs hz
  have r0 := r
  cases r with
  | none => exact ⟨[], (fun _ z => nomatch z), by simp only [PyData.shown]; exact .of_is ReprIs.none _ _ _⟩
  | bool b => exact ⟨[], (fun _ z => nomatch z), by simp only [PyData.shown]; exact .of_is (ReprIs.bool b) _ _ _⟩
  | int i t => exact ⟨[], (fun _ z => nomatch z), by simp only [PyData.shown]; exact .of_is (ReprIs.int t (by simpa [PyData.showable] using hs)) _ _ _⟩
  | str x t => exact ⟨[], (fun _ z => nomatch z), by simp only [PyData.shown]; exact .of_is (ReprIs.str x t (by simpa only [PyData.shown] using hz)) _ _ _⟩
  | list g c e r =>
    rename_i a o vs n ds
    obtain ⟨as, rr⟩ := r0.reads
    simp only [PyData.showable] at hs
    have hz2 : (listText (PyData.shownAll ds)).length ≤ sizeLine := by simpa only [PyData.shown] using hz
    obtain ⟨bs, hb, hk⟩ := RqA.go (P := P) (w := w) (fun v d m h1 h2 => ihN (by have := rqa_sz m; simp at hN; omega) (rqa_at r m) h1 h2) r hs fun t ht => Nat.le_trans (listText_mem_le ht) hz2
    have hna : a ∉ bs := not_mem_of_deeper rr (by simp only [PyData.depth]; omega) hb
    refine ⟨a :: bs, ReadAtMost.cons rr (by simp only [PyData.depth]; omega) hb, ?_⟩
    simp only [PyData.depth, PyData.shown]
    obtain ⟨l⟩ := vs
    cases l with
    | nil =>
      cases r
      simp only [PyData.shownAll, listText_nil]
      exact ReprK.listEmpty g c e
    | cons x l => exact ReprK.list g c e hna (by simpa using hk.length_eq) fun i y z => hk.item i y (by simpa using z)
  | tuple g c e r =>
    rename_i a o vs n ds
    obtain ⟨as, rr⟩ := r0.reads
    simp only [PyData.showable] at hs
    have hz2 : (tupleText (PyData.shownAll ds)).length ≤ sizeLine := by simpa only [PyData.shown] using hz
    obtain ⟨bs, hb, hk⟩ := RqA.go (P := P) (w := w) (fun v d m h1 h2 => ihN (by have := rqa_sz m; simp at hN; omega) (rqa_at r m) h1 h2) r hs fun t ht => Nat.le_trans (tupleText_mem_le ht) hz2
    have hna : a ∉ bs := not_mem_of_deeper rr (by simp only [PyData.depth]; omega) hb
    refine ⟨a :: bs, ReadAtMost.cons rr (by simp only [PyData.depth]; omega) hb, ?_⟩
    simp only [PyData.depth, PyData.shown]
    exact ReprK.tuple g c e hna hk
  | dict g c e z q =>
    rename_i a o es n
    obtain ⟨as, rr⟩ := r0.reads
    refine ⟨[a], ReadAtMost.cons rr (Nat.zero_le _) (bs := []) (n := 0) (fun _ z => nomatch z), ?_⟩
    simp only [PyData.depth, PyData.depthKv, PyData.shown, PyData.shownKv]
    exact ReprK.dict g c e q (by simp) (by rw [z]; exact .nil)
theorem Rq.repr {v : Value} {d : PyData} (r : Rq h v d) (hs : d.showable = true) (hz : d.shown.length ≤ sizeLine) : ∃ bs, ReadAtMost h d.depth bs ∧ ReprK P w bs h d.depth v d.shown := Rq.reprN _ (Nat.le_refl _) r hs hz
theorem Rq.shows {a : Addr} {d : PyData} (r : Rq h (.ref a) d) (hs : d.showable = true) (hz : d.shown.length ≤ sizeLine) : ∃ T idr, ShowsBy P w h a d T idr := by
  have r0 := r
  cases r with
  | list g c e r =>
    rename_i o vs n ds
    obtain ⟨as, rr⟩ := r0.reads
    simp only [PyData.showable] at hs
    have hz2 : (listText (PyData.shownAll ds)).length ≤ sizeLine := by simpa only [PyData.shown] using hz
    obtain ⟨bs, hb, hk⟩ := RqA.go (P := P) (w := w) (fun v d m h1 h2 => Rq.repr (rqa_at r m) h1 h2) r hs fun t ht => Nat.le_trans (listText_mem_le ht) hz2
    have hna : a ∉ bs := not_mem_of_deeper rr (by simp only [PyData.depth]; omega) hb
    refine ⟨"list", "list.__repr__", F.slot_list_repr.toG, F.slot_list_str, F.slot_list_format, fun s hk0 => ⟨o, hk0 _ _ g, c⟩, fun A E s Q hg hu hk0 hQ => ?_⟩
    simp only [PyData.depth] at hu
    simp only [PyData.shown] at hQ
    obtain ⟨l⟩ := vs
    cases l with
    | nil =>
      cases r
      simp only [PyData.shownAll, listText_nil] at hQ
      exact call_list_repr_empty ⟨o, hk0 _ _ g, c⟩ (hk0 _ _ g) e (hQ s.heap _ _ fun _ _ z => z)
    | cons x l => exact call_list_reprK g c e hna (by simpa using hk.length_eq) (fun i y z => hk.item i y (by simpa using z)) hg (fun b _ => Clear.nil b) hu hk0 hQ hz2
  | tuple g c e r =>
    rename_i o vs n ds
    obtain ⟨as, rr⟩ := r0.reads
    simp only [PyData.showable] at hs
    have hz2 : (tupleText (PyData.shownAll ds)).length ≤ sizeLine := by simpa only [PyData.shown] using hz
    obtain ⟨bs, hb, hk⟩ := RqA.go (P := P) (w := w) (fun v d m h1 h2 => Rq.repr (rqa_at r m) h1 h2) r hs fun t ht => Nat.le_trans (tupleText_mem_le ht) hz2
    have hna : a ∉ bs := not_mem_of_deeper rr (by simp only [PyData.depth]; omega) hb
    refine ⟨"tuple", "tuple.__repr__", F.slot_tuple_repr, F.slot_tuple_str, F.slot_tuple_format, fun s hk0 => ⟨o, hk0 _ _ g, c⟩, fun A E s Q hg hu hk0 hQ => ?_⟩
    simp only [PyData.depth] at hu
    simp only [PyData.shown] at hQ
    exact call_tuple_reprK g c e hna hk hg (fun b _ => Clear.nil b) hu hk0 hQ hz2
  | dict g c e z q =>
    rename_i o es n
    refine ⟨"dict", "dict.__repr__", F.slot_dict_repr, F.slot_dict_str, F.slot_dict_format, fun s hk0 => ⟨o, hk0 _ _ g, c⟩, fun A E s Q hg hu hk0 hQ => ?_⟩
    simp only [PyData.depth, PyData.depthKv] at hu
    simp only [PyData.shown, PyData.shownKv] at hQ hz
    exact call_dict_reprK (as := []) g c e q (by simp) (ps := []) (by rw [z]; exact .nil) hg (fun b _ => Clear.nil b) hu hk0 hQ hz
end
/-! ### data by the ledger, empty dicts among them -/
mutual
inductive Dv (L : Lg) : V → PyData → Prop where
  | non : Dv L .non .none
  | bl (b : Bool) : Dv L (.bl b) (.bool b)
  | int (i : Int) : Dv L (.int i) (.int i)
  | str (z : Str) : Dv L (.str z) (.str z)
  | lst {a : Addr} {xs : List V} {ds : List PyData} (m : (a, .lst xs) ∈ L) (r : DvAll L xs ds) : Dv L (.ref a) (.list ds)
  | tup {a : Addr} {xs : List V} {ds : List PyData} (m : (a, .tup xs) ∈ L) (r : DvAll L xs ds) : Dv L (.ref a) (.tuple ds)
  | dct {a : Addr} (m : (a, .dK []) ∈ L) : Dv L (.ref a) (.dict [])
inductive DvAll (L : Lg) : List V → List PyData → Prop where
  | nil : DvAll L [] []
  | cons {x : V} {xs : List V} {d : PyData} {ds : List PyData} (h : Dv L x d) (r : DvAll L xs ds) : DvAll L (x :: xs) (d :: ds)
end
mutual
theorem Dv.mono {L M : Lg} (s : ∀ p ∈ L, p ∈ M) : ∀ {x : V} {d : PyData}, Dv L x d → Dv M x d
  | _, _, .non => .non
  | _, _, .bl b => .bl b
  | _, _, .int i => .int i
  | _, _, .str z => .str z
  | _, _, .lst m h => .lst (s _ m) (DvAll.mono s h)
  | _, _, .tup m h => .tup (s _ m) (DvAll.mono s h)
  | _, _, .dct m => .dct (s _ m)
theorem DvAll.mono {L M : Lg} (s : ∀ p ∈ L, p ∈ M) : ∀ {xs : List V} {ds : List PyData}, DvAll L xs ds → DvAll M xs ds
  | _, _, .nil => .nil
  | _, _, .cons h r => .cons (Dv.mono s h) (DvAll.mono s r)
end
mutual
theorem Dt.dv {L : Lg} : ∀ {x : V} {d : PyData}, Dt L x d → Dv L x d
  | _, _, .non => .non
  | _, _, .bl b => .bl b
  | _, _, .int i => .int i
  | _, _, .str z => .str z
  | _, _, .lst m h => .lst m (DtAll.dv h)
  | _, _, .tup m h => .tup m (DtAll.dv h)
theorem DtAll.dv {L : Lg} : ∀ {xs : List V} {ds : List PyData}, DtAll L xs ds → DvAll L xs ds
  | _, _, .nil => .nil
  | _, _, .cons h r => .cons (Dt.dv h) (DtAll.dv r)
end
theorem DvAll.len {L : Lg} : ∀ {xs : List V} {ds : List PyData}, DvAll L xs ds → xs.length = ds.length
  | _, _, .nil => rfl
  | _, _, .cons _ r => by rw [List.length_cons, List.length_cons, r.len]
theorem DvAll.get {L : Lg} : ∀ {xs : List V} {ds : List PyData} {i : Nat} {x : V}, DvAll L xs ds → xs[i]? = some x → ∃ d, ds[i]? = some d ∧ Dv L x d
  | _, _, 0, _, .cons h _, e => by cases e; exact ⟨_, rfl, h⟩
  | _, _, i + 1, _, .cons _ r, e => r.get (i := i) (by simpa using e)
theorem DvAll.ints {L : Lg} (ns : List Int) : DvAll L (ns.map V.int) (ns.map PyData.int) := (DtAll.ints ns).dv
theorem DvAll.app {L : Lg} : ∀ {xs ys : List V} {ds es : List PyData}, DvAll L xs ds → DvAll L ys es → DvAll L (xs ++ ys) (ds ++ es)
  | _, _, _, _, .nil, h => h
  | _, _, _, _, .cons h r, h2 => .cons h (r.app h2)
theorem Dv.ints {L : Lg} {a : Addr} {ns : List Int} (h : (a, .lst (ns.map V.int)) ∈ L) : Dv L (.ref a) (.list (ns.map PyData.int)) := .lst h (.ints ns)
theorem Dv.intsT {L : Lg} {a : Addr} {ns : List Int} (h : (a, .tup (ns.map V.int)) ∈ L) : Dv L (.ref a) (.tuple (ns.map PyData.int)) := .tup h (.ints ns)
theorem Dv.ty {L : Lg} {x : V} {d : PyData} (h : Dv L x d) : HasTy L x (dtName d) := by
  cases h with
  | non => exact .non
  | bl b => exact .bl b
  | int i => exact .int i
  | str z => exact .str z
  | lst m _ => exact .lst m
  | tup m _ => exact .tup m
  | dct m => exact .dct m
section
variable {X : Cx} {pins : List (Addr × Obj)} {σ : L2.St} {H : Hp} {s : Shared} {L : Lg}
mutual
theorem Dv.rq (I : Inv X pins σ H s) (l : Led H L) : ∀ {x : V} {d : PyData} {u : Value}, Dv L x d → RelV x u → Rq s.heap u d
  | _, _, _, .non, r => by cases r; exact .none
  | _, _, _, .bl b, r => by cases r; exact .bool b
  | _, _, _, .int i, r => by obtain ⟨t, rfl⟩ := r; exact .int i t
  | _, _, _, .str z, r => by obtain ⟨t, rfl⟩ := r; exact .str z t
  | _, _, _, .lst m h, r => by
    cases r
    obtain ⟨its, rv, ⟨o, n, ho, hc, _, hd⟩, _⟩ := I.list (.inl (.inl (l.has _ m)))
    exact .list ho hc hd (by rw [List.toList_toArray]; exact DvAll.rq I l h rv)
  | _, _, _, .tup m h, r => by
    cases r
    obtain ⟨its, rv, ⟨o, ho, hc, n, hd⟩, _⟩ := I.tuple (.inl (.inl (l.has _ m)))
    exact .tuple ho hc hd (by rw [List.toList_toArray]; exact DvAll.rq I l h rv)
  | _, _, _, .dct m, r => by
    cases r
    obtain ⟨_, hq, vs, rel, o, es, ep, e, x, hd, _, pr, _⟩ := I.hok _ _ (l.has _ m)
    cases rel
    refine .dict e x.1 hd ?_ hq
    revert pr
    generalize es.toList = l
    intro pr
    cases pr; rfl
theorem DvAll.rq (I : Inv X pins σ H s) (l : Led H L) : ∀ {xs : List V} {ds : List PyData} {us : List Value}, DvAll L xs ds → Vals xs us → RqA s.heap us ds
  | _, _, _, .nil, r => by cases r; exact .nil
  | _, _, _, .cons h q, r => by
    cases r with
    | cons r1 r2 => exact .cons (Dv.rq I l h r1) (DvAll.rq I l q r2)
end
end
end Hz
namespace Hz
open PySem PySem.Spec PyProof.Rows L2 RZ
/-! ### what can be shown -/
/-- d's text has at most n signs, it is nested at most k deep -/
def Sz (n k : Nat) (d : PyData) : Prop := d.showable = true ∧ d.depth ≤ k ∧ d.shown.length ≤ n
theorem Sz.le {n k m j : Nat} {d : PyData} (h : Sz n k d) (e1 : n ≤ m) (e2 : k ≤ j) : Sz m j d := ⟨h.1, Nat.le_trans h.2.1 e2, Nat.le_trans h.2.2 e1⟩
theorem Sz.none : Sz 4 0 .none := ⟨by simp only [PyData.showable], by simp only [PyData.depth]; omega, by simp only [PyData.shown]; decide⟩
theorem Sz.bool (b : Bool) : Sz 5 0 (.bool b) := ⟨by simp only [PyData.showable], by simp only [PyData.depth]; omega, by cases b <;> simp only [PyData.shown] <;> decide⟩
theorem Sz.int {i : Int} (N : Nat) (h0 : 0 < N) (h1 : N ≤ 1000) (h : i.natAbs < 2 ^ N) : Sz (N + 1) 0 (.int i) := by
  have z := PySem.Flt.log2_lt_of h0 h
  refine ⟨by simp only [PyData.showable, decide_eq_true_eq]; omega, by simp only [PyData.depth]; omega, ?_⟩
  simp only [PyData.shown]
  rw [PySem.ofString_length]
  exact int_text_length_le h0 z
theorem Sz.str {z : Str} (h : ∀ c ∈ z.cps.toList, c < 16 ^ 8) : Sz (10 * z.cps.size + 8) 0 (.str z) := by
  refine ⟨by simp only [PyData.showable], by simp only [PyData.depth]; omega, ?_⟩
  have := PyData.shown_le 8 (by decide) (.str z) (by simp only [PyData.leavesShort, List.all_eq_true, decide_eq_true_eq]; exact h)
  simpa only [PyData.weight] using this
theorem Sz.dct : Sz 2 1 (.dict []) := ⟨by simp only [PyData.showable, PyData.showableKv], by simp only [PyData.depth, PyData.depthKv]; omega, by simp only [PyData.shown, PyData.shownKv]; decide⟩
theorem sz_show {n k : Nat} : ∀ {ds : List PyData}, (∀ d ∈ ds, Sz n k d) → PyData.showableAll ds = true
  | [], _ => by simp only [PyData.showableAll]
  | d :: r, h => by simp only [PyData.showableAll, (h d (.head _)).1, sz_show fun e m => h e (.tail _ m), Bool.and_self]
theorem sz_deep {n k : Nat} : ∀ {ds : List PyData}, (∀ d ∈ ds, Sz n k d) → PyData.depthAll ds ≤ k
  | [], _ => by simp only [PyData.depthAll]; omega
  | d :: r, h => by
    have h1 := (h d (.head _)).2.1
    have h2 := sz_deep (ds := r) fun e m => h e (.tail _ m)
    simp only [PyData.depthAll]; omega
theorem sz_sum {n k : Nat} : ∀ {ds : List PyData}, (∀ d ∈ ds, Sz n k d) → ((PyData.shownAll ds).map (·.length)).sum ≤ ds.length * n ∧ (PyData.shownAll ds).length = ds.length
  | [], _ => by simp [PyData.shownAll]
  | d :: r, h => by
    have h1 := (h d (.head _)).2.2
    obtain ⟨h2, h3⟩ := sz_sum (ds := r) fun e m => h e (.tail _ m)
    simp only [PyData.shownAll, List.map_cons, List.sum_cons, List.length_cons, h3, Nat.add_mul, Nat.one_mul]
    exact ⟨by omega, trivial⟩
theorem Sz.list {n k : Nat} {ds : List PyData} (m : Nat) (h : ∀ d ∈ ds, Sz n k d) (hl : ds.length ≤ m) : Sz (m * n + 2 * m + 3) (k + 1) (.list ds) := by
  obtain ⟨h1, h2⟩ := sz_sum h
  refine ⟨by simp only [PyData.showable]; exact sz_show h, by have := sz_deep h; simp only [PyData.depth]; omega, ?_⟩
  have h3 := listText_len_le (PyData.shownAll ds)
  have h4 : ds.length * n ≤ m * n := Nat.mul_le_mul_right _ hl
  simp only [PyData.shown]
  omega
theorem Sz.tuple {n k : Nat} {ds : List PyData} (m : Nat) (h : ∀ d ∈ ds, Sz n k d) (hl : ds.length ≤ m) : Sz (m * n + 2 * m + 3) (k + 1) (.tuple ds) := by
  obtain ⟨h1, h2⟩ := sz_sum h
  refine ⟨by simp only [PyData.showable]; exact sz_show h, by have := sz_deep h; simp only [PyData.depth]; omega, ?_⟩
  have h3 := tupleText_len_le (PyData.shownAll ds)
  have h4 : ds.length * n ≤ m * n := Nat.mul_le_mul_right _ hl
  simp only [PyData.shown]
  omega
theorem Sz.ints {ns : List Int} (N m : Nat) (h0 : 0 < N) (h1 : N ≤ 1000) (h : ∀ n ∈ ns, n.natAbs < 2 ^ N) (hl : ns.length ≤ m) : Sz (m * (N + 1) + 2 * m + 3) 1 (.list (ns.map PyData.int)) :=
  Sz.list m (fun d hd => by obtain ⟨n, hn, rfl⟩ := List.mem_map.mp hd; exact Sz.int N h0 h1 (h n hn)) (by rw [List.length_map]; exact hl)
theorem Sz.intsT {ns : List Int} (N m : Nat) (h0 : 0 < N) (h1 : N ≤ 1000) (h : ∀ n ∈ ns, n.natAbs < 2 ^ N) (hl : ns.length ≤ m) : Sz (m * (N + 1) + 2 * m + 3) 1 (.tuple (ns.map PyData.int)) :=
  Sz.tuple m (fun d hd => by obtain ⟨n, hn, rfl⟩ := List.mem_map.mp hd; exact Sz.int N h0 h1 (h n hn)) (by rw [List.length_map]; exact hl)
/-! ### repr of data -/
section
variable {X : Cx}
/-- repr(x), x data by any ledger that the heap holds -/
def rReprV : List V → Hp → VK → Prop := fun xs H Q => ∃ x d L, xs = [x] ∧ Led H L ∧ Dv L x d ∧ d.showable = true ∧ d.depth < 60 ∧ d.shown.length ≤ sizeLine ∧ Q (.str d.shown) H
theorem call_reprV (gd : X.A.guards = some []) (hu : X.A.units + 64 < cLine) : CallR X (.builtin "repr") rReprV := by
  intro pins s σ H xs us Q I r h
  obtain ⟨x, d, L, rfl, l, hd, hs, hk, hz, q⟩ := h
  obtain ⟨u, rfl, ru⟩ := vals1 r
  have rq := hd.rq I l ru
  have deep : ∀ {a : Addr}, Rq s.heap (.ref a) d → wpAny (model X.prog X.w) X.A (call (.builtin "repr") [.ref a]) (EP X pins σ Q) X.xe s := fun {a} rq => by
    obtain ⟨T, idr, S⟩ := rq.shows (P := X.prog) (w := X.w) hs hz
    exact call_repr_slot (by omega) (S.typeIs s fun _ _ z => z) S.slotRepr (S.call X.A.in1 X.xe s _ gd (by show X.A.units + 1 + d.depth < cLine; omega) (fun _ _ z => z) fun h' u tk hk => ⟨_, _, rfl, ⟨.str _, H, I.kept hk, ⟨_, rfl⟩, q⟩⟩)
  cases hd with
  | non =>
    cases (show u = Value.none from ru)
    exact PySem.P.repr_of_none ⟨.str _, H, I.tok _, ⟨_, rfl⟩, by simpa only [PyData.shown] using q⟩
  | bl b =>
    cases (show u = Value.bool b from ru)
    exact PySem.P.repr_of_bool ⟨.str _, H, I.tok _, ⟨_, rfl⟩, by simpa only [PyData.shown] using q⟩
  | int i =>
    obtain ⟨t, rfl⟩ := ru
    exact PySem.P.repr_of_int (by simpa [PyData.showable] using hs) ⟨.str _, H, I.tok _, ⟨_, rfl⟩, by simpa only [PyData.shown] using q⟩
  | str y =>
    obtain ⟨t, rfl⟩ := ru
    exact PySem.P.repr_of_str ⟨.str _, H, I.tok _, ⟨_, rfl⟩, by simpa only [PyData.shown] using q⟩ (by simpa only [PyData.shown] using hz)
  | lst _ _ =>
    cases (show u = Value.ref _ from ru)
    exact deep rq
  | tup _ _ =>
    cases (show u = Value.ref _ from ru)
    exact deep rq
  | dct _ =>
    cases (show u = Value.ref _ from ru)
    exact deep rq
end
section
variable {L M R : Lg} {Q : VK} {x : V} {d : PyData} {a : Addr}
theorem t_reprV (hd : Dv L x d) (n k : Nat) (hs : Sz n k d) (hn : n ≤ 16777216) (hk : k < 60) (q : Tr L fun H => Q (.str d.shown) H) : Tr L fun H => rReprV [x] H Q :=
  fun H l => ⟨x, d, L, rfl, l, hd, hs.1, Nat.lt_of_le_of_lt hs.2.1 hk, by rw [sizeLine_eq]; exact Nat.le_trans hs.2.2 hn, q H l⟩
theorem t_reprVI {ns : List Int} (hm : (a, .lst (ns.map V.int)) ∈ L) (h : ∀ n ∈ ns, n.natAbs < 2 ^ 1000) (hl : ns.length ≤ 16000) (q : Tr L fun H => Q (.str (reprI ns)) H) : Tr L fun H => rReprV [.ref a] H Q :=
  t_reprV (Dv.ints hm) _ _ (Sz.ints 1000 16000 (by decide) (by decide) h hl) (by decide) (by decide) q
/-! ### what is new stands ahead of what was -/
theorem Pick.app {o : HO} : ∀ (N : Lg) {L R : Lg}, Pick a o L R → Pick a o (N ++ L) (N ++ R)
  | [], _, _, h => h
  | _ :: N, _, _, h => .tail (Pick.app N h)
theorem Sub.app : ∀ (N : Lg) {L M : Lg}, Sub L M → Sub (N ++ L) M
  | [], _, _, h => h
  | _ :: N, _, _, h => .drop (Sub.app N h)
/-- M is N ahead of L -/
inductive Pre : Lg → Lg → Lg → Prop where
  | nil {L : Lg} : Pre L L []
  | cons {x : Addr × HO} {M L N : Lg} : Pre M L N → Pre (x :: M) L (x :: N)
  | app (K : Lg) {M L N : Lg} : Pre M L N → Pre (K ++ M) L (K ++ N)
theorem Pre.eq {M L N : Lg} (h : Pre M L N) : M = N ++ L := by
  induction h with
  | nil => rfl
  | cons _ ih => rw [ih]; rfl
  | app K _ ih => rw [ih, List.append_assoc]
theorem t_pre {o : HO} {N : Lg} {G : Hp → Prop} (hp : Pick a o M R) (h : Pre R L N) (k : Tr ((a, o) :: (N ++ L)) G) : Tr M G := by
  rw [← h.eq] at k
  exact Tr.pick hp k
theorem t_preV {o : HO} {N : Lg} {G : Hp → Prop} (S : PyData → Prop) (k : ∀ d, Dv (N ++ L) x d → S d → Tr ((a, o) :: (N ++ L)) G) (hp : Pick a o M R) (h : Pre R L N) (key : ∃ d, Dv R x d ∧ S d) : Tr M G := by
  obtain ⟨d, h1, h2⟩ := key
  rw [h.eq] at h1
  exact t_pre hp h (k d h1 h2)
theorem t_pre0 {N : Lg} {G : Hp → Prop} (h : Pre M L N) (k : Tr (N ++ L) G) : Tr M G := by
  rw [h.eq]; exact k
end
end Hz
namespace Hz
open PySem PySem.Spec PyProof.Rows L2 RZ
section
variable {L : Lg} {σ : SS} {Q : VK}
/-- {} -/
theorem t_dnewK (k : ∀ p, Tr ((p, .dK []) :: L) fun H => Q (.ref p) H) : Tr L fun H => tDNewK σ H Q := fun H l p hp => k p _ (l.new hp)
end
end Hz
namespace Hz
open PySem PySem.Spec PyProof.Rows L2 RZ
/-- ways come together: what is known then bears a name -/
theorem t_join {α : Type} {L : Lg} {G : Hp → Prop} {T : Hp → Prop} (X : α → Lg) (J : α → Prop) (k : (∀ y M, J y → Sub M (X y) → Tr M T) → Tr L G) (main : ∀ y, J y → Tr (X y) T) : Tr L G := k fun y M h s => (main y h).sub s
end Hz
namespace Hz
open PySem PySem.Spec PyProof.Rows L2 RZ
section
variable {L R R' : Lg} {Q : VK} {K : PySem.W.Frag} {a b p : Addr} {xs ys : List V}
theorem t_extend (hp : Pick a (.lst xs) L R) (hq : Pick b (.lst ys) L R') (hz : xs.length + ys.length ≤ sizeLine) (k : Tr ((a, .lst (xs ++ ys)) :: R) fun H => Q .non H) : Tr L fun H => rExtend (.ref a) [.ref b] H Q :=
  fun H l => ⟨a, b, xs, ys, rfl, rfl, l.get hp, l.get hq, hz, k _ (l.pick hp).put⟩
/-- xs[i] = v -/
theorem t_setV {i : Int} {v : V} {G : Hp → Prop} (hp : Pick p (.lst xs) L R) (h0 : 0 ≤ i) (h1 : i < xs.length) (k : Tr ((p, .lst (xs.set i.toNat v)) :: R) G) : Tr L fun H => rSetL (.ref p) (.int i) v H G :=
  t_setL (j := i.toNat) hp (by unfold ixN; first | rfl | (split <;> simp_all <;> omega)) k
/-! ### lists of tuples of two ints -/
def prD (p : Int × Int) : PyData := .tuple [.int p.1, .int p.2]
def prsD (ps : List (Int × Int)) : PyData := .list (ps.map prD)
/-- xs are tuples of two ints -/
def Prs (L : Lg) (xs : List V) (ps : List (Int × Int)) : Prop := DtAll L xs (ps.map prD)
theorem Dt.inv {L : Lg} {x : V} {p : Int × Int} (h : Dt L x (prD p)) : ∃ T, x = .ref T ∧ (T, .tup [.int p.1, .int p.2]) ∈ L := by
  unfold prD at h
  cases h with
  | tup m r =>
    cases r with
    | cons h1 r =>
      cases h1
      cases r with
      | cons h2 r =>
        cases h2
        cases r
        exact ⟨_, rfl, m⟩
theorem Dt.pr {L : Lg} {T : Addr} {s l : Int} (m : (T, .tup [.int s, .int l]) ∈ L) : Dt L (.ref T) (prD (s, l)) := .tup m (.cons (.int _) (.cons (.int _) .nil))
theorem Prs.len {L : Lg} {xs : List V} {ps : List (Int × Int)} (h : Prs L xs ps) : xs.length = ps.length := by
  have := DtAll.len h
  rwa [List.length_map] at this
theorem Prs.at {L : Lg} {xs : List V} {ps : List (Int × Int)} (h : Prs L xs ps) {i : Nat} {v : V} (e : xs[i]? = some v) : ∃ T p, v = .ref T ∧ ps[i]? = some p ∧ (T, .tup [.int p.1, .int p.2]) ∈ L := by
  obtain ⟨d, e1, hd⟩ := DtAll.get h e
  rw [List.getElem?_map] at e1
  cases e2 : ps[i]? with
  | none => rw [e2] at e1; cases e1
  | some p =>
    rw [e2] at e1
    cases e1
    obtain ⟨T, rfl, m⟩ := hd.inv
    exact ⟨T, p, rfl, rfl, m⟩
theorem Prs.mono {L M : Lg} (s : ∀ p ∈ L, p ∈ M) {xs : List V} {ps : List (Int × Int)} (h : Prs L xs ps) : Prs M xs ps := DtAll.mono s h
theorem DtAll.app {L : Lg} : ∀ {xs ys : List V} {ds es : List PyData}, DtAll L xs ds → DtAll L ys es → DtAll L (xs ++ ys) (ds ++ es)
  | _, _, _, _, .nil, h => h
  | _, _, _, _, .cons h r, h2 => .cons h (r.app h2)
theorem DtAll.set {L : Lg} : ∀ {xs : List V} {ds : List PyData} {x : V} {d : PyData} (i : Nat), DtAll L xs ds → Dt L x d → DtAll L (xs.set i x) (ds.set i d)
  | _, _, _, _, _, .nil, _ => .nil
  | _, _, _, _, 0, .cons _ r, h => .cons h r
  | _, _, _, _, i + 1, .cons h0 r, h => .cons h0 (r.set i h)
theorem Prs.app {L : Lg} {xs ys : List V} {ps qs : List (Int × Int)} (h : Prs L xs ps) (h2 : Prs L ys qs) : Prs L (xs ++ ys) (ps ++ qs) := by
  unfold Prs
  rw [List.map_append]
  exact DtAll.app h h2
theorem Prs.set {L : Lg} {xs : List V} {ps : List (Int × Int)} {x : V} {p : Int × Int} (i : Nat) (h : Prs L xs ps) (h2 : Dt L x (prD p)) : Prs L (xs.set i x) (ps.set i p) := by
  unfold Prs
  rw [List.map_set]
  exact DtAll.set i h h2
theorem Prs.one {L : Lg} {T : Addr} {s l : Int} (m : (T, .tup [.int s, .int l]) ∈ L) : Prs L [.ref T] [(s, l)] := .cons (.pr m) .nil
theorem Prs.snoc {L : Lg} {xs : List V} {ps : List (Int × Int)} {T : Addr} {s l : Int} (h : Prs L xs ps) (m : (T, .tup [.int s, .int l]) ∈ L) : Prs L (xs ++ [.ref T]) (ps ++ [(s, l)]) := h.app (.one m)
theorem Prs.dt {L : Lg} {xs : List V} {ps : List (Int × Int)} (h : Prs L xs ps) (m : (a, .lst xs) ∈ L) : Dt L (.ref a) (prsD ps) := .lst m h
/-- numbers of at most 110 bits -/
def Sm (ps : List (Int × Int)) : Prop := ∀ p ∈ ps, 0 ≤ p.1 ∧ p.1 < 2 ^ 110 ∧ 0 ≤ p.2 ∧ p.2 < 2 ^ 110
theorem Sz.pr {p : Int × Int} (h : 0 ≤ p.1 ∧ p.1 < 2 ^ 110 ∧ 0 ≤ p.2 ∧ p.2 < 2 ^ 110) : Sz 300 1 (prD p) :=
  (Sz.tuple (n := 111) (k := 0) 2 (fun d hd => by
    simp only [List.mem_cons, List.not_mem_nil, or_false] at hd
    rcases hd with rfl | rfl
    · exact Sz.int 110 (by decide) (by decide) (by omega)
    · exact Sz.int 110 (by decide) (by decide) (by omega)) (by simp)).le (by decide) (by decide)
theorem Sz.prs {ps : List (Int × Int)} (m : Nat) (h : Sm ps) (hl : ps.length ≤ m) : Sz (m * 300 + 2 * m + 3) 2 (prsD ps) :=
  Sz.list m (fun d hd => by obtain ⟨p, hp, rfl⟩ := List.mem_map.mp hd; exact Sz.pr (h p hp)) (by rw [List.length_map]; exact hl)
theorem eqvAll_prs : ∀ ps qs : List (Int × Int), PyData.eqvAll (ps.map prD) (qs.map prD) = decide (ps = qs)
  | [], [] => by simp [PyData.eqvAll]
  | [], _ :: _ => by simp [PyData.eqvAll]
  | _ :: _, [] => by simp [PyData.eqvAll]
  | (s, l) :: r, (s', l') :: r' => by
    simp only [List.map_cons, PyData.eqvAll, prD, PyData.eqv, eqvAll_prs r r', List.cons.injEq, Prod.mk.injEq, Bool.decide_and, Bool.and_true]
    rfl
theorem eqv_prs (ps qs : List (Int × Int)) : PyData.eqv (prsD ps) (prsD qs) = decide (ps = qs) := by
  simp only [prsD, PyData.eqv, eqvAll_prs]
theorem shaped_prs (ps : List (Int × Int)) : SeqAt.shaped (prsD ps) = true := by
  have c : ∀ ps : List (Int × Int), PyData.canLayAll0 (ps.map prD) = true := by
    intro ps
    induction ps with
    | nil => simp [PyData.canLayAll0]
    | cons n r ih => simp [PyData.canLayAll0, PyData.canLay0, prD, ih]
  have d : ∀ ps : List (Int × Int), PyData.depthAll (ps.map prD) ≤ 1 := by
    intro ps
    induction ps with
    | nil => simp [PyData.depthAll]
    | cons n r ih =>
      simp only [List.map_cons, PyData.depthAll, prD, PyData.depth]
      exact Nat.max_le.mpr ⟨by decide, ih⟩
  have := d ps
  unfold SeqAt.shaped prsD
  simp [PyData.canLay0, c, PyData.depth]
  omega
theorem t_eqPrs {ps qs : List (Int × Int)} (ha : Dt L (.ref a) (prsD ps)) (hb : Dt L (.ref b) (prsD qs)) (k : Tr L fun H => Q (.bl (decide (ps = qs))) H) : Tr L fun H => rEqD K (.ref a) (.ref b) H Q :=
  t_eqD ha.dpl hb.dpl (shaped_prs ps) (shaped_prs qs) (by rw [eqv_prs]; exact k)
theorem t_nePrs {ps qs : List (Int × Int)} (ha : Dt L (.ref a) (prsD ps)) (hb : Dt L (.ref b) (prsD qs)) (k : Tr L fun H => Q (.bl (!decide (ps = qs))) H) : Tr L fun H => rNeD K (.ref a) (.ref b) H Q :=
  t_neD ha.dpl hb.dpl (shaped_prs ps) (shaped_prs qs) (by rw [eqv_prs]; exact k)
end
end Hz
namespace Hz
open PySem PySem.Spec PyProof.Rows L2 RZ
/-- ways come together: two ints, o otherwise known -/
theorem t_joinP {L : Lg} {G : Hp → Prop} {T : Int → Int → Hp → Prop} (X : Int → Int → HO → Lg) (J : Int → Int → HO → Prop) (k : (∀ i j o M, J i j o → Sub M (X i j o) → Tr M (T i j)) → Tr L G) (main : ∀ i j o, J i j o → Tr (X i j o) (T i j)) : Tr L G := k fun i j o M h s => (main i j o h).sub s
end Hz
namespace Hz
open PySem PySem.Spec PyProof.Rows L2 RZ
/-- ns[:i], i may lie behind the end -/
theorem cutI_upto {ns : List Int} {i : Int} (h0 : 0 ≤ i) : cutI ns none (some i) = ns.take i.toNat := by
  unfold cutI
  have e : HT.sIx ns.length ns.length (some i) = min i.toNat ns.length := by
    show (if i < 0 then _ else min i.toNat ns.length) = min i.toNat ns.length
    rw [if_neg (by omega)]
  rw [e]
  show (ns.drop 0).take (min i.toNat ns.length - 0) = ns.take i.toNat
  rw [List.drop_zero, Nat.sub_zero, ← List.take_take, List.take_length]
end Hz
namespace Hz
open PySem PySem.Spec PyProof.Rows L2 RZ
/-- part of what is known bears a name from here on -/
theorem t_gen {α : Type} {L : Lg} {G : Hp → Prop} (X : α → Lg) (J : α → Prop) (y : α) (hJ : J y) (s : Sub L (X y)) (main : ∀ y, J y → Tr (X y) G) : Tr L G := (main y hJ).sub s
theorem fl_nil {α : Type} {b : Nat → Bool} {o : Nat → α} {n : Nat} : fl b o n = [] ↔ ∀ i, i < n → b i = false := by
  unfold fl
  rw [List.map_eq_nil_iff, List.filter_eq_nil_iff]
  constructor
  · intro h i hi
    exact Bool.eq_false_iff.mpr (h i (List.mem_range.mpr hi))
  · intro h i hi
    rw [h i (List.mem_range.mp hi)]; decide
/-- a comprehension's emptiness: all do -/
theorem fl_all_eq {α : Type} [Inhabited α] (ps : List α) (f : α → Bool) (o : Nat → Int) : decide (fl (fun t => !f (ps.getD t default)) o ps.length = []) = ps.all f := by
  rw [Bool.eq_iff_iff, decide_eq_true_eq, fl_nil, List.all_eq_true]
  constructor
  · intro h x hx
    obtain ⟨i, hi⟩ := List.mem_iff_getElem?.mp hx
    have := h i (List.getElem?_eq_some_iff.mp hi).1
    rw [List.getD_eq_getElem?_getD, hi] at this
    simpa using this
  · intro h i hi
    have := h ps[i] (List.getElem_mem hi)
    rw [List.getD_eq_getElem?_getD, List.getElem?_eq_getElem hi]
    simpa using this
theorem getD_of {α : Type} [Inhabited α] {ps : List α} {i : Nat} {x : α} (h : ps[i]? = some x) : ps.getD i default = x := by rw [List.getD_eq_getElem?_getD, h]; rfl
end Hz
namespace Hz
open PySem PySem.Spec PyProof.Rows L2 RZ
theorem Prs.pick {L : Lg} {xs : List V} {ps : List (Int × Int)} (h : Prs L xs ps) {i : Int} (h0 : 0 ≤ i) (h1 : i < ps.length) : ∃ T p, L2.atI xs i = some (.ref T) ∧ ps[i.toNat]? = some p ∧ p ∈ ps ∧ (T, .tup [.int p.1, .int p.2]) ∈ L := by
  have hl := h.len
  have hv : xs[i.toNat]? = some (xs[i.toNat]'(by omega)) := List.getElem?_eq_getElem (by omega)
  obtain ⟨T, p, e, e2, m⟩ := h.at hv
  rw [e] at hv
  have := atI_nat hv
  rw [Int.toNat_of_nonneg h0] at this
  exact ⟨T, p, this, e2, List.mem_of_getElem? e2, m⟩
end Hz
namespace Hz
open PySem PySem.Spec PyProof.Rows L2 RZ
/-- ns[i:], i may lie behind the end -/
theorem cutI_after {ns : List Int} {i : Int} (h0 : 0 ≤ i) : cutI ns (some i) none = ns.drop i.toNat := by
  unfold cutI
  have e : HT.sIx ns.length 0 (some i) = min i.toNat ns.length := by
    show (if i < 0 then _ else min i.toNat ns.length) = min i.toNat ns.length
    rw [if_neg (by omega)]
  rw [e]
  show (ns.drop (min i.toNat ns.length)).take (ns.length - min i.toNat ns.length) = ns.drop i.toNat
  rw [List.take_of_length_le (by rw [List.length_drop]; exact Nat.le_refl _)]
  by_cases c : i.toNat ≤ ns.length
  · rw [Nat.min_eq_left c]
  · rw [Nat.min_eq_right (by omega), List.drop_length, List.drop_of_length_le (by omega)]
end Hz
namespace Hz
open PySem PySem.Spec PyProof.Rows L2 RZ
/-! ### lists of lists of ints -/
def rwD (r : List Int) : PyData := .list (r.map PyData.int)
/-- xs are lists of ints -/
def Rws (L : Lg) (xs : List V) (rs : List (List Int)) : Prop := DtAll L xs (rs.map rwD)
theorem Dt.rw_inv {L : Lg} {x : V} {r : List Int} (h : Dt L x (rwD r)) : ∃ T, x = .ref T ∧ (T, .lst (r.map V.int)) ∈ L := by
  unfold rwD at h
  cases h with
  | lst m q =>
    rename_i a xs
    have : ∀ {xs : List V} {zs : List Int}, DtAll L xs (zs.map PyData.int) → xs = zs.map V.int := by
      intro xs
      induction xs with
      | nil => intro zs h; cases zs <;> first | rfl | cases h
      | cons x r ih =>
        intro zs h
        cases zs with
        | nil => cases h
        | cons z s =>
          cases h with
          | cons h1 h2 =>
            cases h1
            rw [ih h2]; rfl
    rw [this q] at m
    exact ⟨_, rfl, m⟩
theorem Rws.len {L : Lg} {xs : List V} {rs : List (List Int)} (h : Rws L xs rs) : xs.length = rs.length := by
  have := DtAll.len h
  rwa [List.length_map] at this
theorem Rws.at {L : Lg} {xs : List V} {rs : List (List Int)} (h : Rws L xs rs) {i : Nat} {v : V} (e : xs[i]? = some v) : ∃ T r, v = .ref T ∧ rs[i]? = some r ∧ (T, .lst (r.map V.int)) ∈ L := by
  obtain ⟨d, e1, hd⟩ := DtAll.get h e
  rw [List.getElem?_map] at e1
  cases e2 : rs[i]? with
  | none => rw [e2] at e1; cases e1
  | some r =>
    rw [e2] at e1
    cases e1
    obtain ⟨T, rfl, m⟩ := hd.rw_inv
    exact ⟨T, r, rfl, rfl, m⟩
theorem Rws.mono {L M : Lg} (s : ∀ p ∈ L, p ∈ M) {xs : List V} {rs : List (List Int)} (h : Rws L xs rs) : Rws M xs rs := DtAll.mono s h
theorem Rws.app {L : Lg} {xs ys : List V} {ps qs : List (List Int)} (h : Rws L xs ps) (h2 : Rws L ys qs) : Rws L (xs ++ ys) (ps ++ qs) := by
  unfold Rws
  rw [List.map_append]
  exact DtAll.app h h2
theorem Rws.one {L : Lg} {T : Addr} {r : List Int} (m : (T, .lst (r.map V.int)) ∈ L) : Rws L [.ref T] [r] := .cons (Dt.ints m) .nil
theorem Rws.snoc {L : Lg} {xs : List V} {rs : List (List Int)} {T : Addr} {r : List Int} (h : Rws L xs rs) (m : (T, .lst (r.map V.int)) ∈ L) : Rws L (xs ++ [.ref T]) (rs ++ [r]) := h.app (.one m)
theorem Rws.set {L : Lg} {xs : List V} {rs : List (List Int)} {T : Addr} {r : List Int} (i : Nat) (h : Rws L xs rs) (m : (T, .lst (r.map V.int)) ∈ L) : Rws L (xs.set i (.ref T)) (rs.set i r) := by
  unfold Rws
  rw [List.map_set]
  exact DtAll.set i h (Dt.ints m)
theorem Rws.pick {L : Lg} {xs : List V} {rs : List (List Int)} (h : Rws L xs rs) {i : Int} (h0 : 0 ≤ i) (h1 : i < rs.length) : ∃ T r, L2.atI xs i = some (.ref T) ∧ rs[i.toNat]? = some r ∧ r ∈ rs ∧ (T, .lst (r.map V.int)) ∈ L := by
  have hl := h.len
  have hv : xs[i.toNat]? = some (xs[i.toNat]'(by omega)) := List.getElem?_eq_getElem (by omega)
  obtain ⟨T, p, e, e2, m⟩ := h.at hv
  rw [e] at hv
  have := atI_nat hv
  rw [Int.toNat_of_nonneg h0] at this
  exact ⟨T, p, this, e2, List.mem_of_getElem? e2, m⟩
/-- a comprehension's emptiness, the other way -/
theorem fl_any_eq {α : Type} [Inhabited α] (ps : List α) (f : α → Bool) (o : Nat → Int) : decide (fl (fun t => f (ps.getD t default)) o ps.length = []) = !ps.any f := by
  have h := fl_all_eq ps (fun x => !f x) o
  simp only [Bool.not_not] at h
  rw [h, List.not_any_eq_all_not]
end Hz
namespace Hz
open PySem PySem.Spec PyProof.Rows L2 RZ
/-- a value by two ways, what follows is walked once -/
theorem t_ifV {α : Type} {L : Lg} {σ σ' : SS} {b : Bool} {ta tb : TE} {Q : VK} (S : α → V) (X : α → Lg) (J : α → Prop) (h1 : b = true → ∀ Q : VK, (∀ y, J y → ∀ M, Sub M (X y) → Tr M fun H => Q (S y) H) → Tr L fun H => ta σ H Q)
    (h2 : b = false → ∀ Q : VK, (∀ y, J y → ∀ M, Sub M (X y) → Tr M fun H => Q (S y) H) → Tr L fun H => tb σ' H Q) (k : ∀ y, J y → Tr (X y) fun H => Q (S y) H) : Tr L fun H => if b = true then ta σ H Q else tb σ' H Q :=
  t_ite (fun h => h1 h Q fun y j _ s => (k y j).sub s) fun h => h2 h Q fun y j _ s => (k y j).sub s
end Hz
namespace Hz
open PySem PySem.Spec PyProof.Rows L2 RZ
theorem Sub.keep : ∀ (N : Lg) {L M : Lg}, Sub L M → Sub (N ++ L) (N ++ M)
  | [], _, _, h => h
  | _ :: N, _, _, h => .take .head (Sub.keep N h)
end Hz

/-! Hz, part K: dicts by the ledger. -/
namespace Hz
open PySem PySem.Spec PyProof.Rows L2 RZ
theorem RoomG.u1 {k : Nat} {A : Around} (r : RoomG k A) : A.units + 1 < cLine := by have := r.rm.un; omega
/-- what an int key holds -/
def dv (kvs : List (Key × V)) (i : Int) : Option V := valV kvs (Sum.inl i)
theorem dv_nil (i : Int) : dv [] i = none := rfl
theorem dv_put (kvs : List (Key × V)) (k j : Int) (v : V) : dv (putK kvs (Sum.inl k) v) j = if j = k then some v else dv kvs j := by
  unfold dv
  rw [valV_put]
  by_cases c : j = k
  · rw [if_pos c, if_pos (by rw [c])]
  · rw [if_neg c, if_neg (fun e => c (by injection e))]
/-- the keys are few -/
structure Few (n : Nat) (kvs : List (Key × V)) : Prop where
  nd : (kvs.map (·.1)).Nodup
  rg : ∀ p ∈ kvs, ∃ i : Int, p.1 = Sum.inl i ∧ 0 ≤ i ∧ i < n
theorem Few.nil (n : Nat) : Few n [] := ⟨List.nodup_nil, fun _ h => nomatch h⟩
theorem few_ints : ∀ (B : Nat) (ks : List Int), ks.Nodup → (∀ k ∈ ks, 0 ≤ k ∧ k < B) → ks.length ≤ B
  | 0, [], _, _ => Nat.le_refl _
  | 0, k :: r, _, h => absurd (h k (.head _)) (by omega)
  | B + 1, ks, nd, h => by
    have a := few_ints B (ks.filter fun k => decide (k ≠ (B : Int))) (nd.filter _) fun k hk => by
      obtain ⟨h1, h2⟩ := List.mem_filter.mp hk
      have := h k h1
      have := of_decide_eq_true h2
      omega
    have b : ks.length ≤ (ks.filter fun k => decide (k ≠ (B : Int))).length + 1 := by
      clear a h
      induction ks with
      | nil => simp
      | cons k r ih =>
        have nr := List.nodup_cons.mp nd
        by_cases c : k = (B : Int)
        · have : (r.filter fun k => decide (k ≠ (B : Int))) = r := List.filter_eq_self.mpr fun x hx => decide_eq_true fun e => nr.1 (by rw [c, ← e]; exact hx)
          rw [List.filter_cons, if_neg (by rw [decide_eq_true_eq]; exact fun h => h c), this, List.length_cons]
          exact Nat.le_refl _
        · rw [List.filter_cons, if_pos (decide_eq_true c), List.length_cons, List.length_cons]
          have := ih nr.2
          omega
    omega
theorem Few.len {n : Nat} {kvs : List (Key × V)} (h : Few n kvs) : kvs.length ≤ n := by
  have key : ∀ {l : List (Key × V)}, (l.map (·.1)).Nodup → (∀ p ∈ l, ∃ i : Int, p.1 = Sum.inl i ∧ 0 ≤ i ∧ i < n) → ∃ ks : List Int, l.map (·.1) = ks.map Sum.inl ∧ ∀ k ∈ ks, 0 ≤ k ∧ k < n := fun {l} _ hr => by
    induction l with
    | nil => exact ⟨[], rfl, fun _ h => nomatch h⟩
    | cons p r ih =>
      rename_i hnd
      obtain ⟨i, e, b⟩ := hr p (.head _)
      obtain ⟨ks, e2, b2⟩ := ih (List.nodup_cons.mp hnd).2 fun q hq => hr q (.tail _ hq)
      refine ⟨i :: ks, by rw [List.map_cons, e, e2]; rfl, fun k hk => ?_⟩
      rcases List.mem_cons.mp hk with rfl | hk
      · exact b
      · exact b2 k hk
  obtain ⟨ks, e, b⟩ := key h.nd h.rg
  have nd := h.nd
  rw [e] at nd
  have nd2 : ks.Nodup := by
    refine (List.pairwise_map.mp nd).imp fun {a b} h e => h (by rw [e])
  have := few_ints n ks nd2 b
  have el : kvs.length = ks.length := by rw [← List.length_map (f := (·.1)) (as := kvs), e, List.length_map]
  omega
theorem Few.put {n : Nat} {kvs : List (Key × V)} (h : Few n kvs) {i : Int} (h0 : 0 ≤ i) (h1 : i < n) (v : V) : Few n (putK kvs (Sum.inl i) v) := by
  unfold putK
  split
  · refine ⟨?_, fun p hp => ?_⟩
    · rw [List.map_map]
      have : ((fun kv : Key × V => kv.1) ∘ fun kv : Key × V => if kv.1 = Sum.inl i then (kv.1, v) else kv) = fun kv => kv.1 := by
        funext kv
        show (if kv.1 = Sum.inl i then (kv.1, v) else kv).1 = kv.1
        split <;> rfl
      rw [this]
      exact h.nd
    · obtain ⟨q, hq, e⟩ := List.mem_map.mp hp
      obtain ⟨j, ej, bj⟩ := h.rg q hq
      refine ⟨j, ?_, bj⟩
      rw [← e]
      split
      · exact ej
      · exact ej
  · rename_i c
    refine ⟨?_, fun p hp => ?_⟩
    · rw [List.map_append, List.map_cons, List.map_nil]
      refine List.nodup_append.mpr ⟨h.nd, by simp, fun a ha b hb => ?_⟩
      rw [List.mem_singleton.mp hb]
      rintro rfl
      obtain ⟨q, hq, e⟩ := List.mem_map.mp ha
      exact c (List.any_eq_true.mpr ⟨q, hq, decide_eq_true e⟩)
    · rcases List.mem_append.mp hp with hp | hp
      · exact h.rg p hp
      · rw [List.mem_singleton.mp hp]; exact ⟨i, rfl, h0, h1⟩
/-! ### readings -/
def dIn (x y : V) (H : Hp) (Q : VK) : Prop := ∃ a o, x = .ref a ∧ DGet H a y o ∧ Q (.bl o.isSome) H
def dNotIn (x y : V) (H : Hp) (Q : VK) : Prop := ∃ a o, x = .ref a ∧ DGet H a y o ∧ Q (.bl (!o.isSome)) H
def dAt (x y : V) (H : Hp) (Q : VK) : Prop := ∃ a v, x = .ref a ∧ DGet H a y (some v) ∧ Q v H
def dGet1 (a : Addr) (y : V) (H : Hp) (Q : VK) : Prop := ∃ o, DGet H a y o ∧ Q (o.getD .non) H
def dPut (x y v : V) (H : Hp) (G : Hp → Prop) : Prop := ∃ a H4, x = .ref a ∧ DPut H a y v H4 ∧ G H4
section
variable {L R R' : Lg} {σ : SS} {Q : VK} {a b : Addr} {kvs : List (Key × V)} {tvs : List (List Key × V)} {td ty tv : TE} {D : Ends} {i j : Int} {v : V} {G : Hp → Prop}
theorem t_din (k : Tr L fun H => ty σ H fun y H1 => td σ H1 fun x H2 => dIn x y H2 Q) : Tr L fun H => tDIn ty td σ H Q := k
theorem t_dnin (k : Tr L fun H => ty σ H fun y H1 => td σ H1 fun x H2 => dNotIn x y H2 Q) : Tr L fun H => tDNotIn ty td σ H Q := k
theorem t_dix (k : Tr L fun H => td σ H fun x H1 => ty σ H1 fun y H2 => dAt x y H2 Q) : Tr L fun H => tDGet td ty σ H Q := k
theorem t_dg1 (k : Tr L fun H => td σ H fun x H1 => ∃ a, x = .ref a ∧ IsD H1 a ∧ ty σ H1 fun y H2 => dGet1 a y H2 Q) : Tr L fun H => tDGet1 td ty σ H Q := k
theorem t_dput (k : Tr L fun H => tv σ H fun v H1 => td σ H1 fun x H2 => ty σ H2 fun y H3 => dPut x y v H3 fun H4 => D.nx σ H4) : Tr L fun H => sDPut td ty tv D σ H := k
theorem t_isDk {G : Addr → Hp → Prop} (hp : Pick a (.dK kvs) L R) (k : Tr L (G a)) : Tr L fun H => ∃ a', V.ref a = .ref a' ∧ IsD H a' ∧ G a' H := fun H l => ⟨a, rfl, .inl ⟨_, .inl (l.get hp)⟩, k H l⟩
theorem t_dinK (hp : Pick a (.dK kvs) L R) (k : Tr L fun H => Q (.bl (dv kvs i).isSome) H) : Tr L fun H => dIn (.ref a) (.int i) H Q := fun H l => ⟨a, _, rfl, DGet.k (k := Sum.inl i) (l.get hp), k H l⟩
theorem t_dninK (hp : Pick a (.dK kvs) L R) (k : Tr L fun H => Q (.bl (!(dv kvs i).isSome)) H) : Tr L fun H => dNotIn (.ref a) (.int i) H Q := fun H l => ⟨a, _, rfl, DGet.k (k := Sum.inl i) (l.get hp), k H l⟩
theorem t_datK (hp : Pick a (.dK kvs) L R) (hv : dv kvs i = some v) (k : Tr L fun H => Q v H) : Tr L fun H => dAt (.ref a) (.int i) H Q := fun H l => ⟨a, v, rfl, by rw [← hv]; exact DGet.k (k := Sum.inl i) (l.get hp), k H l⟩
theorem t_dgetK (hp : Pick a (.dK kvs) L R) (k : Tr L fun H => Q ((dv kvs i).getD .non) H) : Tr L fun H => dGet1 a (.int i) H Q := fun H l => ⟨_, DGet.k (k := Sum.inl i) (l.get hp), k H l⟩
theorem t_dputK (hp : Pick a (.dK kvs) L R) (hz : kvs.length < sizeLine) (k : Tr ((a, .dK (putK kvs (Sum.inl i) v)) :: R) G) : Tr L fun H => dPut (.ref a) (.int i) v H G :=
  fun H l => ⟨a, _, rfl, DPut.k (k := Sum.inl i) (l.get hp) hz, k _ (l.pick hp).put⟩
/-- keys that are two ints -/
def dv2 (tvs : List (List Key × V)) (i j : Int) : Option V := valV tvs [Sum.inl i, Sum.inl j]
theorem t_dinT (hp : Pick a (.dT tvs) L R) (hq : (b, .tup [.int i, .int j]) ∈ L) (k : Tr L fun H => Q (.bl (dv2 tvs i j).isSome) H) : Tr L fun H => dIn (.ref a) (.ref b) H Q :=
  fun H l => ⟨a, _, rfl, DGet.t (k := [Sum.inl i, Sum.inl j]) (l.get hp) (l.has _ hq), k H l⟩
theorem t_dputT (hp : Pick a (.dT tvs) L R) (hq : (b, .tup [.int i, .int j]) ∈ R) (hz : tvs.length < sizeLine) (k : Tr ((a, .dT (putK tvs [Sum.inl i, Sum.inl j] v)) :: R) G) : Tr L fun H => dPut (.ref a) (.ref b) v H G :=
  fun H l => ⟨a, _, rfl, DPut.t (k := [Sum.inl i, Sum.inl j]) (l.get hp) ((l.pick hp).has _ (.tail _ hq)) hz, k _ (l.pick hp).put⟩
theorem t_dnewT (k : ∀ p, Tr ((p, .dT []) :: L) fun H => Q (.ref p) H) : Tr L fun H => tDNewT σ H Q := fun H l p hp => k p _ (l.new hp)
end
end Hz
namespace Hz
open PySem PySem.Spec PyProof.Rows L2 RZ
/-! ### dict comprehensions -/
section
variable {L M : Lg} {σ σ0 : SS} {K : PySem.W.Frag} {wi : TI} {g : TG} {tt : TT} {tk tv : TE} {vs : List Nat} {Q : VK}
/-- a pair is put into the new dict -/
def dcAdd (D : Addr) (N : Hp → Prop) (y z : V) (H : Hp) : Prop := ∃ kvs k, y = kV k ∧ H D = some (.dK kvs) ∧ kvs.length < sizeLine ∧ N (upd H D (.dK (putK kvs k z)))
def dcK (g : TG) (tt : TT) (tk tv : TE) (vs : List Nat) (σ : SS) (Q : VK) (J : It) (H1 : Hp) : Prop := ∀ D, H1 D = none → ∃ W : Nat → Nat → Hp → Prop, (∃ m, W 0 m (upd H1 D (.dK []))) ∧ ∀ i m H, W i m H →
  (J.stop i H ∧ Q (.ref D) H) ∨ (J.go i H ∧ ∃ Nx : Hp → Prop, (∀ H', Nx H' → ∃ m', m' < m ∧ W (i + 1) m' H') ∧ ∀ x H', J.yld i H x H' → g x (wipe σ vs) H' fun σ2 H2 => wipe σ2 vs = wipe σ vs ∧ tt σ2 H2 fun b H3 =>
    if b = true then tk σ2 H3 fun y H4 => tv σ2 H4 fun z H5 => dcAdd D Nx y z H5 else Nx H3)
theorem t_dc (k : Tr L fun H => wi σ H (dcK g tt tk tv vs σ Q)) : Tr L fun H => tDc wi g tt tk tv vs σ H Q := k
def dcNx (M : Lg) (I : Nat → List (Key × V) → Prop) (D : Addr) (i : Nat) (H : Hp) : Prop := ∃ kvs, I i kvs ∧ Led H ((D, .dK kvs) :: M)
theorem t_dcAdd {R : Lg} {I : Nat → List (Key × V) → Prop} {D : Addr} {i : Nat} {kvs : List (Key × V)} {k : Int} {v : V} (hp : Pick D (.dK kvs) L R) (hz : kvs.length < sizeLine) (hI : I i (putK kvs (Sum.inl k) v)) (hM : Sub R M) :
    Tr L fun H => dcAdd D (dcNx M I D i) (.int k) v H := fun H l => ⟨kvs, Sum.inl k, rfl, l.get hp, hz, _, hI, (l.pick hp).put.sub (.take .head hM)⟩
theorem t_dcK {J : It} {n : Nat} {val : Nat → V → Lg → Prop} {Src : Lg → Prop} (wk : Wk J n val Src) (hw : wipe σ vs = σ0) (M : Lg) (I : Nat → List (Key × V) → Prop) (hM : Sub L M) (h0 : I 0 []) (hsrc : ∀ x, Src (x :: M))
    (hs : ∀ D i kvs v L', i < n → I i kvs → val i v L' → Tr (L' ++ (D, .dK kvs) :: M) fun H => g v σ0 H fun σ2 H2 => wipe σ2 vs = σ0 ∧ tt σ2 H2 fun b H3 =>
      if b = true then tk σ2 H3 fun y H4 => tv σ2 H4 fun z H5 => dcAdd D (dcNx M I D (i + 1)) y z H5 else dcNx M I D (i + 1) H3)
    (hd : ∀ D kvs, I n kvs → Tr ((D, .dK kvs) :: M) fun H => Q (.ref D) H) : Tr L fun H => dcK g tt tk tv vs σ Q J H := by
  intro H l D hD
  refine ⟨fun i m H' => m = n - i ∧ i ≤ n ∧ dcNx M I D i H', ⟨n, by simp, Nat.zero_le _, [], h0, (l.new hD).sub (.take .head hM)⟩, ?_⟩
  rintro i m H' ⟨rfl, hi, kvs, iy, ly⟩
  by_cases h : i < n
  · refine .inr ⟨wk.go _ _ i (hsrc _) ly h, dcNx M I D (i + 1), fun H2 p => ⟨n - (i + 1), by omega, rfl, h, p⟩, fun v H2 yl => ?_⟩
    obtain ⟨L', hv, l'⟩ := wk.yld _ _ i v H2 (hsrc _) ly h yl
    rw [hw]
    exact hs D i kvs v L' h iy hv H2 l'
  · obtain rfl : i = n := by omega
    exact .inl ⟨wk.stop _ _ (hsrc _) ly, hd D kvs iy H' ly⟩
end
end Hz
namespace Hz
open PySem PySem.Spec PyProof.Rows L2 RZ
section
variable {X : Cx}
/-- name = {..} on one line, the name a local -/
theorem ps_setDc {i : Nat} {y : Str} {py : Pos} {kx vx tg iter : Expr} {ifs : List Expr} {scope : Scope} {own : List (Str × Nat)} {pos spos : Pos} {wi : TI} {g : TG} {tt : TT} {tk tv : TE} (hc : X.calm = true) (hN : X.N.Nodup) (hy : X.N[i]? = some y) (hyl : X.env.scope.names.lookup y = some .local)
    (hsw : swapsWith (.DictComp kx vx [⟨tg, iter, ifs, 0⟩] scope pos) (some (.Name y py)) spos.line X.env = pure true) (hi : PI X tg iter wi) (ok : BlkOk X.N X.env.scope scope own)
    (hg : ∀ (s : Shared) (H : Hp) (C : Addr) (cl : List (Str × Addr)) (fp : List Addr), PG (X.blk s H scope (compEnvC scope cl C X.env) fp) tg g) (ht : ∀ (s : Shared) (H : Hp) (C : Addr) (cl : List (Str × Addr)) (fp : List Addr), PTs (X.blk s H scope (compEnvC scope cl C X.env) fp) ifs tt)
    (hk : ∀ (s : Shared) (H : Hp) (C : Addr) (cl : List (Str × Addr)) (fp : List Addr), PE (X.blk s H scope (compEnvC scope cl C X.env) fp) kx tk)
    (he : ∀ (s : Shared) (H : Hp) (C : Addr) (cl : List (Str × Addr)) (fp : List Addr), PE (X.blk s H scope (compEnvC scope cl C X.env) fp) vx tv) (hs : ∀ x, foldedSetIterable iter X.env x = pure x := by intro _; rfl) :
    PS X (.Assign [.Name y py] (.DictComp kx vx [⟨tg, iter, ifs, 0⟩] scope pos) spos) (tAsg (tDc wi g tt tk tv (own.map (·.2))) (gName i)) := by
  refine ⟨fun pins s σ H D I h => ?_⟩
  rw [exec_Assign_Name_used _ _ _ _ hsw]
  refine wpAny_bind (wpAny_standAt (wpAny_bind ?_))
  show wpAny _ X.A (do let _ ← comprehension (.DictComp kx vx [⟨tg, iter, ifs, 0⟩] scope pos) scope X.env (firstIterPos [⟨tg, iter, ifs, 0⟩] pos) newDict false (eval iter X.env) (some (assign (.Name y py) X.env))) _ _ s
  have h : tDc wi g tt tk tv (own.map (·.2)) σ H (fun x H1 => gName i x σ H1 D.nx) := h
  refine wpAny_bind (thn (dc_core (Qf := fun _ s' => SP X pins D .next s') hc hN I hi ok hg ht hk he hs h fun L C s' m H' I' q hn f => ?_) fun _ s' hq => wpAny_pure (wpAny_pure hq))
  show wpAny _ _ (assign (.Name y py) X.env (.ref L)) _ _ _
  refine wpAny_assign_Name (store_ok2 (v := V.ref L) I' hN hy (.inl hyl) rfl (fun s2 I2 ⟨a, sb, ha⟩ => ?_) (.inr hyl))
  obtain ⟨f0, f1, f2, f3, f4, f5⟩ := f
  have haC : C ≠ a := by
    rcases ha with z | z
    · rw [z]; exact f1
    · exact fun e => f4 y a z e.symm
  refine ⟨m, hn.sameBut sb haC, fun h3 sb3 => ?_⟩
  exact ⟨_, H', I2.turned (t' := s2.toks) (fun b o hb e => (sb3.2 b hb).trans e) f0 f1 f3 f4 f5, q⟩
theorem sw_trueD {kx vx : Expr} {gs : List Comprehension} {scope : Scope} {pos py : Pos} {y : Str} {l : Nat} {env : Env} (hk : env.scope.kind = .function) (hy : env.scope.names.lookup y = some .local) (hl : (py.line == pos.line) = true)
    (ha : (scope.names.any fun (n, k) => n == y && (k == .local || k == .cell)) = false) : swapsWith (.DictComp kx vx gs scope pos) (some (.Name y py)) l env = pure true := by
  have ky : env.kindOf y = some .local := hy
  have hb : env.blockKind = .function := by unfold Env.blockKind; rw [hk]; rfl
  unfold swapsWith
  simp only [hb, ky, ha, Expr.pos, hl]
  rfl
end
end Hz

/-! Hz, part P: sorted of a list of tuples of two ints. -/
namespace Hz
open PySem PySem.Spec PyProof.Rows L2 RZ
/-- by the first, then by the second -/
def lexLe (x y : Int × Int) : Prop := x.1 < y.1 ∨ (x.1 = y.1 ∧ x.2 ≤ y.2)
section
variable {L R : Lg} {σ : SS} {Q : VK} {K : PySem.W.Frag} {a : Addr} {xs : List V} {ps : List (Int × Int)}
theorem Prs.mem {L : Lg} : ∀ {xs : List V} {ps : List (Int × Int)}, Prs L xs ps → ∀ x ∈ xs, ∃ (t : Addr) (p : Int × Int), x = V.ref t ∧ (t, HO.tup [.int p.1, .int p.2]) ∈ L := fun {xs ps} h x hx => by
  obtain ⟨i, hi⟩ := List.mem_iff_getElem?.mp hx
  obtain ⟨T, p, e, -, m⟩ := h.at hi
  exact ⟨T, p, e, m⟩
theorem prs_map {L : Lg} {H : Hp} (l : Led H L) {k : V → Int × Int} (hk : ∀ x t p, x = V.ref t → (t, HO.tup [.int p.1, .int p.2]) ∈ L → k x = p) : ∀ {xs : List V} {ps : List (Int × Int)}, Prs L xs ps → xs.map k = ps := fun {xs ps} h => by
  have hl := h.len
  refine List.ext_getElem? fun i => ?_
  rw [List.getElem?_map]
  by_cases c : i < xs.length
  · rw [List.getElem?_eq_getElem c]
    obtain ⟨T, p, e, e2, m⟩ := h.at (List.getElem?_eq_getElem c)
    rw [e2]
    show some (k xs[i]) = some p
    rw [hk _ T p e m]
  · rw [List.getElem?_eq_none (by omega), List.getElem?_eq_none (by omega)]; rfl
theorem prs_of {L : Lg} {k : V → Int × Int} : ∀ {ys : List V}, (∀ y ∈ ys, ∃ t, y = V.ref t ∧ (t, HO.tup [.int (k y).1, .int (k y).2]) ∈ L) → Prs L ys (ys.map k)
  | [], _ => .nil
  | y :: ys, h => by
    obtain ⟨t, e, m⟩ := h y (.head _)
    have ih := prs_of (L := L) (k := k) (ys := ys) fun z hz => h z (.tail _ hz)
    unfold Prs at ih ⊢
    rw [List.map_cons, List.map_cons]
    refine .cons ?_ ih
    generalize k y = p at m
    subst e
    exact .pr m
theorem t_sortP (hp : Pick a (.lst xs) L R) (hx : Prs L xs ps) (q : ∀ (ys : List V) (qs : List (Int × Int)) p, Prs L ys qs → qs.Perm ps → qs.Pairwise lexLe → Tr ((p, .lst ys) :: L) fun H => Q (.ref p) H) : Tr L fun H => rSortedPO K [.ref a] H Q := fun H l => by
  have uni : ∀ (t : Addr) (p p' : Int × Int), (t, HO.tup [.int p.1, .int p.2]) ∈ L → (t, HO.tup [.int p'.1, .int p'.2]) ∈ L → p = p' := fun t p p' h h' => by
    obtain ⟨_, r1⟩ := Pick.of_mem h
    obtain ⟨_, r2⟩ := Pick.of_mem h'
    have e := (l.get r1).symm.trans (l.get r2)
    injection e with e
    injection e with e
    injection e with e1 e
    injection e with e2 e
    injection e1 with e1
    injection e2 with e2
    exact Prod.ext e1 e2
  have ex : ∀ x : V, ∃ p : Int × Int, ∀ t p', x = V.ref t → (t, HO.tup [.int p'.1, .int p'.2]) ∈ L → p = p' := fun x => by
    by_cases c : ∃ (t : Addr) (p : Int × Int), x = V.ref t ∧ (t, HO.tup [.int p.1, .int p.2]) ∈ L
    · obtain ⟨t, p, e, m⟩ := c
      refine ⟨p, fun t' p' e' m' => ?_⟩
      rw [e] at e'
      injection e' with e'
      subst e'
      exact uni t p p' m m'
    · exact ⟨(0, 0), fun t p' e m => absurd ⟨t, p', e, m⟩ c⟩
  obtain ⟨k, hk⟩ := Classical.axiomOfChoice ex
  have hk : ∀ x t p, x = V.ref t → (t, HO.tup [.int p.1, .int p.2]) ∈ L → k x = p := fun x t p e m => hk x t p e m
  have al : ∀ x ∈ xs, ∃ t, x = V.ref t ∧ (t, HO.tup [.int (k x).1, .int (k x).2]) ∈ L := fun x hm => by
    obtain ⟨t, p, e, m⟩ := hx.mem x hm
    refine ⟨t, e, ?_⟩
    rw [hk x t p e m]
    exact m
  refine ⟨a, xs, k, rfl, sqL hp l, fun x hm => ?_, fun ys p h1 h2 hp' => ?_⟩
  · obtain ⟨t, e, m⟩ := al x hm
    obtain ⟨_, r1⟩ := Pick.of_mem m
    exact ⟨t, e, l.get r1⟩
  · refine q ys (ys.map k) p (prs_of fun y hy => al y (h2.perm.mem_iff.mp hy)) ?_ ?_ _ (l.new hp')
    · rw [← prs_map l hk hx]
      exact h2.perm.map k
    · refine List.pairwise_map.mpr (List.Pairwise.imp (fun {x y} h => ?_) h1)
      have := SrtO.lexB_no.mp h
      unfold lexLe
      omega
end
end Hz

/-! Hz, part X: defs that raise, classes of errors without an own __init__, try .. except. -/
namespace Hz
open PySem PySem.Spec PyProof.Rows L2 RZ
/-- a class of errors at C, without an own __init__ -/
structure ExcC (K : PySem.W.Frag) (mg : Str → Option Value) (x : Str) (C : Addr) : Prop where
  g : mg x = some (.ref C)
  k : PySem.W.keepIn K (.ref C) = true
  e : PySem.W.excIn K C [.type "ValueError", .type "Exception", .type "BaseException", .type "object"] "ValueError.__new__" = true
  r : PySem.W.subIn K (.ref C) (.type "BaseException") = some true
  t : PySem.W.typeIn K (.ref C) = some (.type "type")
  te : PySem.W.exmOne K (.ref C) (.ref C) = some true
theorem exm_own {K : PySem.W.Frag} {S C : Addr} {b : Bool} (h1 : PySem.W.subIn K (.ref C) (.type "BaseException") = some true) (h2 : PySem.W.isClsIn K C = true) (h3 : PySem.W.typeIn K (.ref C) = some (.type "type")) (h4 : PySem.W.subIn K (.ref S) (.ref C) = some b) :
    PySem.W.exmOne K (.ref S) (.ref C) = some b := by
  have e1 : (PySem.W.subIn K (.ref C) (.type "BaseException") == some true) = true := by rw [h1] <;> rfl
  have e2 : ((PySem.W.clsIn K C).isSome && PySem.W.typeIn K (.ref C) == some (.type "type")) = true := by
    have h2' : (PySem.W.clsIn K C).isSome = true := h2
    rw [h2', h3] <;> rfl
  show (if (PySem.W.subIn K (.ref C) (.type "BaseException") == some true) = true then (if ((PySem.W.clsIn K C).isSome && PySem.W.typeIn K (.ref C) == some (.type "type")) = true then PySem.W.subIn K (.ref S) (.ref C) else none) else none) = some b
  rw [if_pos e1, if_pos e2]
  exact h4
section
variable {K : PySem.W.Frag} {mg : Str → Option Value} {h : Heap}
theorem exc_mk (X : K.In h) (G : h.Ns mainGlobals mg) {x : Str} {C : Addr} (a : PySem.W.nsIn K mainGlobals x = some (some (.ref C))) (k : PySem.W.keepIn K (.ref C) = true)
    (e : PySem.W.excIn K C [.type "ValueError", .type "Exception", .type "BaseException", .type "object"] "ValueError.__new__" = true) (r : PySem.W.subIn K (.ref C) (.type "BaseException") = some true)
    (t : PySem.W.typeIn K (.ref C) = some (.type "type")) (i : PySem.W.isClsIn K C = true) (s : PySem.W.subIn K (.ref C) (.ref C) = some true) : ∃ C, ExcC K mg x C :=
  ⟨C, PySem.W.mg_of X G a, k, e, r, t, exm_own r i t s⟩
end
/-- nothing is let out: the call is one that does not raise -/
theorem pasX0 {X : Cx} (σ : L2.St) : PassesAt (L2.CX X.prog X.w) X σ (fun _ _ _ => False) := fun _ _ _ _ _ _ h => by
  obtain ⟨_, _, _, _, _, _, _, _, _, _, _, _, z⟩ := h
  exact z.elim
/-- raise C('..') -/
theorem pe_mk {X : Cx} {x m : Str} {C : Addr} {j : Nat} {p p2 pos : Pos} (T : ExcC X.K X.mg x C) (hg : Gl X x := by rfl) (hdb : (x == ("__debug__" : Str)) = false := by decide) : PMk X (.Call (.Name x p) [.Constant (.str m) j p2] [] pos) (fun _ H Q => Q (.ref C) none H) :=
  pmk_own PySem.F.excBase_ValueError T.e T.g T.k (raises_own T.r T.t) hg hdb
section
variable {K : PySem.W.Frag} {L : Lg} {σ : SS} {D : Ends} {c cls : Value} {d : Option Addr} {ts : Addr → Value → Option Addr → TS} {Wout : WX}
/-- the clause's own class -/
theorem t_only (b : PySem.W.exmOne K cls c = some true) (k : ∀ a, Tr L fun H => ts a cls d D σ H) : Tr L fun H => wOnly K c ts Wout D cls d σ H :=
  fun H l => ⟨true, b, fun _ a _ => k a H l, fun e => nomatch e⟩
end
end Hz

/-! Hz, part Z: zip of three lists. -/
namespace Hz
open PySem PySem.Spec PyProof.Rows L2 RZ
/-- three in a tuple -/
abbrev IsTri (h : Heap) (T : Addr) (a b c : Value) : Prop := h.get? T = some { cls := .type "tuple", data := .seq #[a, b, c] }
/-- all apart -/
structure Ap3 (z TI TO i1 i2 i3 l1 l2 l3 : Addr) : Prop where
  zTI : z ≠ TI
  zTO : z ≠ TO
  zi1 : z ≠ i1
  zi2 : z ≠ i2
  zi3 : z ≠ i3
  TITO : TI ≠ TO
  TIi1 : TI ≠ i1
  TIi2 : TI ≠ i2
  TIi3 : TI ≠ i3
  TOi1 : TO ≠ i1
  TOi2 : TO ≠ i2
  TOi3 : TO ≠ i3
  i1i2 : i1 ≠ i2
  i1i3 : i1 ≠ i3
  i2i3 : i2 ≠ i3
  l1z : l1 ≠ z
  l1TO : l1 ≠ TO
  l1i1 : l1 ≠ i1
  l1i2 : l1 ≠ i2
  l1i3 : l1 ≠ i3
  l2z : l2 ≠ z
  l2TO : l2 ≠ TO
  l2i1 : l2 ≠ i1
  l2i2 : l2 ≠ i2
  l2i3 : l2 ≠ i3
  l3z : l3 ≠ z
  l3TO : l3 ≠ TO
  l3i1 : l3 ≠ i1
  l3i2 : l3 ≠ i2
  l3i3 : l3 ≠ i3
theorem Ap3.fresh {n a b c : Nat} (ha : a < n) (hb : b < n) (hc : c < n) : Ap3 (n + 5) (n + 3) (n + 4) n (n + 1) (n + 2) a b c := by
  constructor <;> (intro h; have h' : (_ : Nat) = _ := h; omega)
section
variable {prog : Program} {w : World} {A : Around} {E : Value → Shared → Prop} {s : Shared}
theorem tri_set {T : Addr} {a b c x : Value} {k : Nat} {Q : Unit → Shared → Prop} (hT : IsTri s.heap T a b c)
    (h : ∀ h', h'.get? T = some { cls := .type "tuple", data := .seq ((#[a, b, c] : Array Value).setIfInBounds k x) } → Heap.SameBut T s.heap h' → Q () { s with heap := h' }) :
    wpAny (model prog w) A (updateSeq T (·.setIfInBounds k x)) Q E s := by
  refine wpAny_updateSeq hT rfl (h _ ?_ (Heap.SameBut.update ..))
  rw [Heap.get?_update_self _ hT rfl]
  simp [Obj.mapSeq]
theorem zip3_item {z TI TO i1 i2 i3 l1 l2 l3 : Addr} {k1 k2 k3 : Nat} {xs ys zs : Array Value} {x y v a b c : Value} {Q : Value → Shared → Prop} (D : Ap3 z TI TO i1 i2 i3 l1 l2 l3)
    (hz : IsZip s.heap z TI TO .none) (hTI : IsTri s.heap TI (.ref i1) (.ref i2) (.ref i3)) (hTO : IsTri s.heap TO a b c)
    (h1 : s.heap.IsListIter i1 l1 k1) (h2 : s.heap.IsListIter i2 l2 k2) (h3 : s.heap.IsListIter i3 l3 k3) (hl1 : s.heap.IsList l1 xs) (hl2 : s.heap.IsList l2 ys) (hl3 : s.heap.IsList l3 zs) (hx : xs[k1]? = some x) (hy : ys[k2]? = some y) (hv : zs[k3]? = some v)
    (hQ : ∀ h', IsZip h' z TI TO (rawInt s.heap.objs.size) → IsTri h' TO x y v → h'.IsListIter i1 l1 (k1 + 1) → h'.IsListIter i2 l2 (k2 + 1) → h'.IsListIter i3 l3 (k3 + 1) → IsTri h' s.heap.objs.size x y v → h'.objs.size = s.heap.objs.size + 1 →
      (∀ c o, c ≠ z → c ≠ TO → c ≠ i1 → c ≠ i2 → c ≠ i3 → s.heap.get? c = some o → h'.get? c = some o) → Q (.ref s.heap.objs.size) { s with heap := h' }) :
    wpAny (model prog w) A (Builtin.«zip.__next__» ⟨[.ref z], []⟩) (fun fin s' => ∃ v, fin = .done (.ret v) ∧ Q v s') E s := by
  show wpAny _ _ (field (.ref z) 2 >>= _) _ _ _
  refine wpAny_bind (wpAny_field hz rfl (x := .bool false) rfl ?_)
  show wpAny _ _ (field (.ref z) 3 >>= _) _ _ _
  refine wpAny_bind (wpAny_field hz rfl (x := .ref TI) rfl ?_)
  refine wpAny_bind (wpAny_seqItems hTI rfl ?_)
  show wpAny _ _ (Builtin.SmallTypes.ownedTupleIsFree (.ref z) >>= _) _ _ _
  refine wpAny_bind ?_
  unfold Builtin.SmallTypes.ownedTupleIsFree
  refine wpAny_bind (wpAny_field hz rfl (x := .none) rfl (wpAny_pure ?_))
  simp only [if_true]
  refine wpAny_bind (wpAny_rule ?_)
  refine wpAny_bind (wpAny_field hz rfl (x := .ref TO) rfl ?_)
  refine wpAny_bind (wpAny_setField_rec hz (by simp) fun h₁ hz₁ hs₁ => ?_)
  replace hz₁ : IsZip h₁ z TI TO .ellipsis := hz₁
  refine wpAny_bind ?_
  simp only [List.zipIdx_cons, List.zipIdx_nil, List.forIn_cons, List.forIn_nil]
  refine wpAny_bind (wpAny_bind (wpAny_onRaise ?_))
  show wpAny _ _ (Builtin.SmallTypes.nextOf (.ref i1) >>= _) _ _ _
  refine wpAny_bind (wpAny_nextOf_list_item (h1.extBut hs₁.extBut (Ne.symm D.zi1)) (hl1.extBut hs₁.extBut D.l1z) hx fun h₂ h1₂ hs₂ => wpAny_pure ?_)
  have hTO₂ : IsTri h₂ TO a b c := hs₂.extBut _ _ D.TOi1 (hs₁.extBut _ _ (Ne.symm D.zTO) hTO)
  refine wpAny_bind (wpAny_seqItems hTO₂ rfl ?_)
  refine wpAny_bind (tri_set hTO₂ fun h₃ hTO₃ hs₃ => ?_)
  replace hTO₃ : IsTri h₃ TO x b c := hTO₃
  refine wpAny_bind (wpAny_letGo (wpAny_pure ?_))
  refine wpAny_bind (wpAny_bind (wpAny_onRaise ?_))
  show wpAny _ _ (Builtin.SmallTypes.nextOf (.ref i2) >>= _) _ _ _
  refine wpAny_bind (wpAny_nextOf_list_item (((h2.extBut hs₁.extBut (Ne.symm D.zi2)).extBut hs₂.extBut (Ne.symm D.i1i2)).extBut hs₃.extBut (Ne.symm D.TOi2)) (((hl2.extBut hs₁.extBut D.l2z).extBut hs₂.extBut D.l2i1).extBut hs₃.extBut D.l2TO) hy fun h₄ h2₄ hs₄ => wpAny_pure ?_)
  have hTO₄ : IsTri h₄ TO x b c := hs₄.extBut _ _ D.TOi2 hTO₃
  refine wpAny_bind (wpAny_seqItems hTO₄ rfl ?_)
  refine wpAny_bind (tri_set hTO₄ fun h₅ hTO₅ hs₅ => ?_)
  replace hTO₅ : IsTri h₅ TO x y c := hTO₅
  refine wpAny_bind (wpAny_letGo (wpAny_pure ?_))
  refine wpAny_bind (wpAny_bind (wpAny_onRaise ?_))
  show wpAny _ _ (Builtin.SmallTypes.nextOf (.ref i3) >>= _) _ _ _
  refine wpAny_bind (wpAny_nextOf_list_item (((((h3.extBut hs₁.extBut (Ne.symm D.zi3)).extBut hs₂.extBut (Ne.symm D.i1i3)).extBut hs₃.extBut (Ne.symm D.TOi3)).extBut hs₄.extBut (Ne.symm D.i2i3)).extBut hs₅.extBut (Ne.symm D.TOi3)) (((((hl3.extBut hs₁.extBut D.l3z).extBut hs₂.extBut D.l3i1).extBut hs₃.extBut D.l3TO).extBut hs₄.extBut D.l3i2).extBut hs₅.extBut D.l3TO) hv fun h₆ h3₆ hs₆ => wpAny_pure ?_)
  have hTO₆ : IsTri h₆ TO x y c := hs₆.extBut _ _ D.TOi3 hTO₅
  refine wpAny_bind (wpAny_seqItems hTO₆ rfl ?_)
  refine wpAny_bind (tri_set hTO₆ fun h₇ hTO₇ hs₇ => ?_)
  replace hTO₇ : IsTri h₇ TO x y v := hTO₇
  refine wpAny_bind (wpAny_letGo (wpAny_pure (wpAny_pure ?_)))
  refine wpAny_bind (wpAny_seqItems hTO₇ rfl ?_)
  refine wpAny_bind (wpAny_newTuple ?_)
  have hsz : h₇.objs.size = s.heap.objs.size := by rw [hs₇.1, hs₆.1, hs₅.1, hs₄.1, hs₃.1, hs₂.1, hs₁.1]
  have hz₇ : IsZip h₇ z TI TO .ellipsis := (hs₇.extBut _ _ D.zTO (hs₆.extBut _ _ D.zi3 (hs₅.extBut _ _ D.zTO (hs₄.extBut _ _ D.zi2 (hs₃.extBut _ _ D.zTO (hs₂.extBut _ _ D.zi1 hz₁))))))
  have hk : ∀ c o, c ≠ z → c ≠ TO → c ≠ i1 → c ≠ i2 → c ≠ i3 → s.heap.get? c = some o → h₇.get? c = some o := fun c o c1 c2 c3 c4 c5 e =>
    (hs₇.extBut _ _ c2 (hs₆.extBut _ _ c5 (hs₅.extBut _ _ c2 (hs₄.extBut _ _ c4 (hs₃.extBut _ _ c2 (hs₂.extBut _ _ c3 (hs₁.extBut _ _ c1 e)))))))
  have e1 : h₇.IsListIter i1 l1 (k1 + 1) := (((((h1₂.extBut hs₃.extBut (Ne.symm D.TOi1)).extBut hs₄.extBut D.i1i2).extBut hs₅.extBut (Ne.symm D.TOi1)).extBut hs₆.extBut D.i1i3).extBut hs₇.extBut (Ne.symm D.TOi1))
  have e2 : h₇.IsListIter i2 l2 (k2 + 1) := (((h2₄.extBut hs₅.extBut (Ne.symm D.TOi2)).extBut hs₆.extBut D.i2i3).extBut hs₇.extBut (Ne.symm D.TOi2))
  have e3 : h₇.IsListIter i3 l3 (k3 + 1) := (h3₆.extBut hs₇.extBut (Ne.symm D.TOi3))
  have hzlt : z < h₇.objs.size := Heap.lt_size hz₇
  show wpAny _ _ (Builtin.SmallTypes.ownedTupleHandOut (.ref z) (.ref h₇.objs.size) >>= _) _ _ _
  refine wpAny_bind ?_
  unfold Builtin.SmallTypes.ownedTupleHandOut
  have hz₈ : IsZip (h₇.push { cls := .type "tuple", data := .seq #[x, y, v] }) z TI TO .ellipsis := Heap.get?_push_of_some _ hz₇
  refine wpAny_bind (wpAny_setField_rec hz₈ (by simp) fun h₉ hz₉ hs₉ => ?_)
  replace hz₉ : IsZip h₉ z TI TO (rawInt h₇.objs.size) := hz₉
  refine wpAny_setField_rec hz₉ (by simp) fun g hg hs => ?_
  replace hg : IsZip g z TI TO (rawInt h₇.objs.size) := hg
  have up : ∀ c o, c ≠ z → h₇.get? c = some o → g.get? c = some o := fun c o c1 e => hs.extBut _ _ c1 (hs₉.extBut _ _ c1 (Heap.get?_push_of_some _ e))
  have hT : IsTri g h₇.objs.size x y v := hs.extBut _ _ (Nat.ne_of_gt hzlt) (hs₉.extBut _ _ (Nat.ne_of_gt hzlt) (Heap.get?_push_size _ rfl))
  have hn : g.objs.size = h₇.objs.size + 1 := by rw [hs.1, hs₉.1, Heap.size_push]
  rw [hsz] at hg hT hn
  refine wpAny_pure ⟨_, rfl, ?_⟩
  show Q (.ref h₇.objs.size) _
  rw [hsz]
  exact hQ g hg (up _ _ (Ne.symm D.zTO) hTO₇) (e1.at fun o e => up _ o (Ne.symm D.zi1) e) (e2.at fun o e => up _ o (Ne.symm D.zi2) e) (e3.at fun o e => up _ o (Ne.symm D.zi3) e) hT hn fun c o c1 c2 c3 c4 c5 e => up c o c1 (hk c o c1 c2 c3 c4 c5 e)
theorem zip3_end {z TI TO i1 i2 i3 l1 l2 l3 : Addr} {k1 k2 k3 : Nat} {xs ys zs : Array Value} {a b c : Value} {Q : Fin → Shared → Prop} (hh : A.handled = none) (D : Ap3 z TI TO i1 i2 i3 l1 l2 l3)
    (hz : IsZip s.heap z TI TO .none) (hTI : IsTri s.heap TI (.ref i1) (.ref i2) (.ref i3)) (hTO : IsTri s.heap TO a b c)
    (h1 : s.heap.IsListIter i1 l1 k1) (h2 : s.heap.IsListIter i2 l2 k2) (h3 : s.heap.IsListIter i3 l3 k3) (hl1 : s.heap.IsList l1 xs) (hl2 : s.heap.IsList l2 ys) (hl3 : s.heap.IsList l3 zs) (hend : xs[k1]? = none ∨ ys[k2]? = none ∨ zs[k3]? = none)
    (hE : ∀ h' e, (∀ c o, c ≠ z → c ≠ TO → c ≠ i1 → c ≠ i2 → c ≠ i3 → s.heap.get? c = some o → h'.get? c = some o) → (∃ o, h'.get? e = some o ∧ o.cls = .type "StopIteration") → E (.ref e) { s with heap := h' }) :
    wpAny (model prog w) A (Builtin.«zip.__next__» ⟨[.ref z], []⟩) Q E s := by
  show wpAny _ _ (field (.ref z) 2 >>= _) _ _ _
  refine wpAny_bind (wpAny_field hz rfl (x := .bool false) rfl ?_)
  show wpAny _ _ (field (.ref z) 3 >>= _) _ _ _
  refine wpAny_bind (wpAny_field hz rfl (x := .ref TI) rfl ?_)
  refine wpAny_bind (wpAny_seqItems hTI rfl ?_)
  show wpAny _ _ (Builtin.SmallTypes.ownedTupleIsFree (.ref z) >>= _) _ _ _
  refine wpAny_bind ?_
  unfold Builtin.SmallTypes.ownedTupleIsFree
  refine wpAny_bind (wpAny_field hz rfl (x := .none) rfl (wpAny_pure ?_))
  simp only [if_true]
  refine wpAny_bind (wpAny_rule ?_)
  refine wpAny_bind (wpAny_field hz rfl (x := .ref TO) rfl ?_)
  refine wpAny_bind (wpAny_setField_rec hz (by simp) fun h₁ hz₁ hs₁ => ?_)
  replace hz₁ : IsZip h₁ z TI TO .ellipsis := hz₁
  refine wpAny_bind ?_
  simp only [List.zipIdx_cons, List.zipIdx_nil, List.forIn_cons, List.forIn_nil]
  cases hx : xs[k1]? with
  | none =>
    refine wpAny_bind (wpAny_bind (wpAny_onRaise ?_))
    show wpAny _ _ (Builtin.SmallTypes.nextOf (.ref i1) >>= _) _ _ _
    refine wpAny_bind (wpAny_nextOf_list_end hh (h1.extBut hs₁.extBut (Ne.symm D.zi1)) (hl1.extBut hs₁.extBut D.l1z) hx fun g e hg he => ?_)
    obtain ⟨oe, hoe, hce⟩ := he
    have hzg : IsZip g z TI TO .ellipsis := hg _ _ D.zi1 hz₁
    have hez : e ≠ z := fun x => by subst x; rw [hzg] at hoe; cases hoe; simp at hce
    refine wpAny_setField_rec hzg (by simp) fun q _ hq => hE q e (fun c o c1 c2 c3 c4 c5 x => hq.extBut _ _ c1 (hg _ _ c3 (hs₁.extBut _ _ c1 x))) ⟨oe, hq.extBut _ _ hez hoe, hce⟩
  | some x =>
    refine wpAny_bind (wpAny_bind (wpAny_onRaise ?_))
    show wpAny _ _ (Builtin.SmallTypes.nextOf (.ref i1) >>= _) _ _ _
    refine wpAny_bind (wpAny_nextOf_list_item (h1.extBut hs₁.extBut (Ne.symm D.zi1)) (hl1.extBut hs₁.extBut D.l1z) hx fun h₂ h1₂ hs₂ => wpAny_pure ?_)
    have hTO₂ : IsTri h₂ TO a b c := hs₂.extBut _ _ D.TOi1 (hs₁.extBut _ _ (Ne.symm D.zTO) hTO)
    refine wpAny_bind (wpAny_seqItems hTO₂ rfl ?_)
    refine wpAny_bind (tri_set hTO₂ fun h₃ hTO₃ hs₃ => ?_)
    replace hTO₃ : IsTri h₃ TO x b c := hTO₃
    refine wpAny_bind (wpAny_letGo (wpAny_pure ?_))
    cases hy : ys[k2]? with
    | none =>
      refine wpAny_bind (wpAny_bind (wpAny_onRaise ?_))
      show wpAny _ _ (Builtin.SmallTypes.nextOf (.ref i2) >>= _) _ _ _
      refine wpAny_bind (wpAny_nextOf_list_end hh (((h2.extBut hs₁.extBut (Ne.symm D.zi2)).extBut hs₂.extBut (Ne.symm D.i1i2)).extBut hs₃.extBut (Ne.symm D.TOi2)) (((hl2.extBut hs₁.extBut D.l2z).extBut hs₂.extBut D.l2i1).extBut hs₃.extBut D.l2TO) hy fun g e hg he => ?_)
      obtain ⟨oe, hoe, hce⟩ := he
      have hzg : IsZip g z TI TO .ellipsis := hg _ _ D.zi2 (hs₃.extBut _ _ D.zTO (hs₂.extBut _ _ D.zi1 hz₁))
      have hez : e ≠ z := fun x => by subst x; rw [hzg] at hoe; cases hoe; simp at hce
      refine wpAny_setField_rec hzg (by simp) fun q _ hq => hE q e (fun c o c1 c2 c3 c4 c5 x => hq.extBut _ _ c1 (hg _ _ c4 (hs₃.extBut _ _ c2 (hs₂.extBut _ _ c3 (hs₁.extBut _ _ c1 x))))) ⟨oe, hq.extBut _ _ hez hoe, hce⟩
    | some y =>
      refine wpAny_bind (wpAny_bind (wpAny_onRaise ?_))
      show wpAny _ _ (Builtin.SmallTypes.nextOf (.ref i2) >>= _) _ _ _
      refine wpAny_bind (wpAny_nextOf_list_item (((h2.extBut hs₁.extBut (Ne.symm D.zi2)).extBut hs₂.extBut (Ne.symm D.i1i2)).extBut hs₃.extBut (Ne.symm D.TOi2)) (((hl2.extBut hs₁.extBut D.l2z).extBut hs₂.extBut D.l2i1).extBut hs₃.extBut D.l2TO) hy fun h₄ h2₄ hs₄ => wpAny_pure ?_)
      have hTO₄ : IsTri h₄ TO x b c := hs₄.extBut _ _ D.TOi2 hTO₃
      refine wpAny_bind (wpAny_seqItems hTO₄ rfl ?_)
      refine wpAny_bind (tri_set hTO₄ fun h₅ hTO₅ hs₅ => ?_)
      replace hTO₅ : IsTri h₅ TO x y c := hTO₅
      refine wpAny_bind (wpAny_letGo (wpAny_pure ?_))
      cases hv : zs[k3]? with
      | none =>
        refine wpAny_bind (wpAny_bind (wpAny_onRaise ?_))
        show wpAny _ _ (Builtin.SmallTypes.nextOf (.ref i3) >>= _) _ _ _
        refine wpAny_bind (wpAny_nextOf_list_end hh (((((h3.extBut hs₁.extBut (Ne.symm D.zi3)).extBut hs₂.extBut (Ne.symm D.i1i3)).extBut hs₃.extBut (Ne.symm D.TOi3)).extBut hs₄.extBut (Ne.symm D.i2i3)).extBut hs₅.extBut (Ne.symm D.TOi3)) (((((hl3.extBut hs₁.extBut D.l3z).extBut hs₂.extBut D.l3i1).extBut hs₃.extBut D.l3TO).extBut hs₄.extBut D.l3i2).extBut hs₅.extBut D.l3TO) hv fun g e hg he => ?_)
        obtain ⟨oe, hoe, hce⟩ := he
        have hzg : IsZip g z TI TO .ellipsis := hg _ _ D.zi3 (hs₅.extBut _ _ D.zTO (hs₄.extBut _ _ D.zi2 (hs₃.extBut _ _ D.zTO (hs₂.extBut _ _ D.zi1 hz₁))))
        have hez : e ≠ z := fun x => by subst x; rw [hzg] at hoe; cases hoe; simp at hce
        refine wpAny_setField_rec hzg (by simp) fun q _ hq => hE q e (fun c o c1 c2 c3 c4 c5 x => hq.extBut _ _ c1 (hg _ _ c5 (hs₅.extBut _ _ c2 (hs₄.extBut _ _ c4 (hs₃.extBut _ _ c2 (hs₂.extBut _ _ c3 (hs₁.extBut _ _ c1 x))))))) ⟨oe, hq.extBut _ _ hez hoe, hce⟩
      | some v =>
        rcases hend with h | h | h
        · rw [hx] at h; cases h
        · rw [hy] at h; cases h
        · rw [hv] at h; cases h
theorem next_zip3_item {z TI TO i1 i2 i3 l1 l2 l3 : Addr} {k1 k2 k3 : Nat} {xs ys zs : Array Value} {x y v a b c : Value} {Q : Option Value → Shared → Prop} (D : Ap3 z TI TO i1 i2 i3 l1 l2 l3)
    (hz : IsZip s.heap z TI TO .none) (hTI : IsTri s.heap TI (.ref i1) (.ref i2) (.ref i3)) (hTO : IsTri s.heap TO a b c)
    (h1 : s.heap.IsListIter i1 l1 k1) (h2 : s.heap.IsListIter i2 l2 k2) (h3 : s.heap.IsListIter i3 l3 k3) (hl1 : s.heap.IsList l1 xs) (hl2 : s.heap.IsList l2 ys) (hl3 : s.heap.IsList l3 zs) (hx : xs[k1]? = some x) (hy : ys[k2]? = some y) (hv : zs[k3]? = some v)
    (hQ : ∀ h', IsZip h' z TI TO (rawInt s.heap.objs.size) → IsTri h' TO x y v → h'.IsListIter i1 l1 (k1 + 1) → h'.IsListIter i2 l2 (k2 + 1) → h'.IsListIter i3 l3 (k3 + 1) → IsTri h' s.heap.objs.size x y v → h'.objs.size = s.heap.objs.size + 1 →
      (∀ c o, c ≠ z → c ≠ TO → c ≠ i1 → c ≠ i2 → c ≠ i3 → s.heap.get? c = some o → h'.get? c = some o) → Q (some (.ref s.heap.objs.size)) { s with heap := h' }) :
    wpAny (model prog w) A (pyNext (.ref z)) Q E s := by
  have hT : s.TypeIs (.ref z) "zip" := ⟨_, hz, rfl⟩
  unfold pyNext
  exact wpAny_bind (wpAny_attempt (wpAny_callSpecial?_slot (name := Str.ofString "__next__") hT PySem.F.slot_zip_next
    (wpAny_call_entry PySem.F.slot_zip_next hT PySem.F.entry_zip_next
      (zip3_item D hz hTI hTO h1 h2 h3 hl1 hl2 hl3 hx hy hv fun h' a1 a2 a3 a4 a5 a6 a7 a8 => wpAny_pure (hQ h' a1 a2 a3 a4 a5 a6 a7 a8)) (PySem.F.args_zip_next_1 _))))
theorem next_zip3_end {z TI TO i1 i2 i3 l1 l2 l3 : Addr} {k1 k2 k3 : Nat} {xs ys zs : Array Value} {a b c : Value} {Q : Option Value → Shared → Prop} (hh : A.handled = none) (D : Ap3 z TI TO i1 i2 i3 l1 l2 l3)
    (hz : IsZip s.heap z TI TO .none) (hTI : IsTri s.heap TI (.ref i1) (.ref i2) (.ref i3)) (hTO : IsTri s.heap TO a b c)
    (h1 : s.heap.IsListIter i1 l1 k1) (h2 : s.heap.IsListIter i2 l2 k2) (h3 : s.heap.IsListIter i3 l3 k3) (hl1 : s.heap.IsList l1 xs) (hl2 : s.heap.IsList l2 ys) (hl3 : s.heap.IsList l3 zs) (hend : xs[k1]? = none ∨ ys[k2]? = none ∨ zs[k3]? = none)
    (hQ : ∀ h', (∀ c o, c ≠ z → c ≠ TO → c ≠ i1 → c ≠ i2 → c ≠ i3 → s.heap.get? c = some o → h'.get? c = some o) → Q none { s with heap := h' }) : wpAny (model prog w) A (pyNext (.ref z)) Q E s := by
  have hT : s.TypeIs (.ref z) "zip" := ⟨_, hz, rfl⟩
  unfold pyNext
  refine wpAny_bind (wpAny_attempt (wpAny_callSpecial?_slot (name := Str.ofString "__next__") hT PySem.F.slot_zip_next
    (wpAny_call_entry PySem.F.slot_zip_next hT PySem.F.entry_zip_next (zip3_end hh D hz hTI hTO h1 h2 h3 hl1 hl2 hl3 hend fun h' e hk he => ?_) (PySem.F.args_zip_next_1 _))))
  obtain ⟨o, ho, hc⟩ := he
  refine wpAny_bind (wpAny_isInstance (T := "StopIteration") (b := true) ⟨o, ho, hc⟩ isSubtype_stop ?_)
  exact wpAny_pure (hQ _ hk)
end
abbrev z3H1 (h : Heap) (l1 : Addr) : Heap := h.push { cls := .type "list_iterator", data := .fields #[.ref l1, .int 0 0] }
abbrev z3H2 (h : Heap) (l1 l2 : Addr) : Heap := (z3H1 h l1).push { cls := .type "list_iterator", data := .fields #[.ref l2, .int 0 0] }
abbrev z3H3 (h : Heap) (l1 l2 l3 : Addr) : Heap := (z3H2 h l1 l2).push { cls := .type "list_iterator", data := .fields #[.ref l3, .int 0 0] }
abbrev z3H4 (h : Heap) (l1 l2 l3 : Addr) : Heap := (z3H3 h l1 l2 l3).push { cls := .type "tuple", data := .seq #[.ref h.objs.size, .ref (z3H1 h l1).objs.size, .ref (z3H2 h l1 l2).objs.size] }
abbrev z3H5 (h : Heap) (l1 l2 l3 : Addr) : Heap := (z3H4 h l1 l2 l3).push { cls := .type "tuple", data := .seq #[.none, .none, .none] }
abbrev z3H6 (h : Heap) (l1 l2 l3 : Addr) : Heap := (z3H5 h l1 l2 l3).push { cls := .type "zip", data := .fields #[.none, .bool false, .bool false, .ref (z3H3 h l1 l2 l3).objs.size, .ref (z3H4 h l1 l2 l3).objs.size] }
theorem meets_zip3 (l1 l2 l3 : Addr) (xs ys zs : Array Value) :
    Meets (Builtin.«zip.__new__» ⟨[.type "zip", .ref l1, .ref l2, .ref l3], []⟩) (fun _ R s => s.heap.IsList l1 xs ∧ s.heap.IsList l2 ys ∧ s.heap.IsList l3 zs ∧
      R (.ok (.ret (.ref (z3H5 s.heap l1 l2 l3).objs.size))) { s with heap := z3H6 s.heap l1 l2 l3 }) :=
  .of_wp fun prog w A R s h => by
    obtain ⟨hp, g, d, tk, os⟩ := s; obtain ⟨hl1, hl2, hl3, h⟩ := h
    have hsub := sub_zip
    have hL1 : Heap.IsList (Shared.heap ⟨hp, g, d, tk, os⟩) l1 xs := hl1
    have hL2 : Heap.IsList (Shared.heap ⟨hp.push { cls := .type "list_iterator", data := .fields #[.ref l1, .int 0 0] }, g, d, tk, os⟩) l2 ys := Heap.IsList.push hl2 _
    have hL3 : Heap.IsList (Shared.heap ⟨(hp.push { cls := .type "list_iterator", data := .fields #[.ref l1, .int 0 0] }).push { cls := .type "list_iterator", data := .fields #[.ref l2, .int 0 0] }, g, d, tk, os⟩) l3 zs := Heap.IsList.push (Heap.IsList.push hl3 _) _
    wp_walk using wpAny_pyIter_list hL1, wpAny_pyIter_list hL2, wpAny_pyIter_list hL3
    exact ⟨_, rfl, h⟩
theorem typeCall_zip_3 (a b c : Value) : checkTypeCall "zip" ⟨[a, b, c], []⟩ = pure () := by kernel_rfl
theorem newCall_zip_3 (a b c : Value) : checkBuiltinCall "zip.__new__" ⟨[.type "zip", a, b, c], []⟩ = pure () := by kernel_rfl
theorem args_object_init_4 (a b c d : Value) : argsOk "object.__init__" ⟨[a, b, c, d], []⟩ := by
  unfold argsOk; rw [signature?_of (id := "object.__init__") (n := ['_', '_', 't', 'i', 'n', 'i', '_', '_']) (o := ['t', 'c', 'e', 'j', 'b', 'o']) (by kernel_rfl) PySem.F.owner_object]; kernel_rfl
section
variable {prog : Program} {w : World} {A : Around} {E : Value → Shared → Prop} {s : Shared}
theorem call_zip3 {l1 l2 l3 : Addr} {xs ys zs : Array Value} {Q : Value → Shared → Prop} (hl1 : s.heap.IsList l1 xs) (hl2 : s.heap.IsList l2 ys) (hl3 : s.heap.IsList l3 zs)
    (h : ∀ h', IsZip h' (s.heap.objs.size + 5) (s.heap.objs.size + 3) (s.heap.objs.size + 4) .none → IsTri h' (s.heap.objs.size + 3) (.ref s.heap.objs.size) (.ref (s.heap.objs.size + 1)) (.ref (s.heap.objs.size + 2)) →
      IsTri h' (s.heap.objs.size + 4) .none .none .none → h'.IsListIter s.heap.objs.size l1 0 → h'.IsListIter (s.heap.objs.size + 1) l2 0 → h'.IsListIter (s.heap.objs.size + 2) l3 0 →
      (∀ c o, s.heap.get? c = some o → h'.get? c = some o) → Q (.ref (s.heap.objs.size + 5)) { s with heap := h' }) :
    wpAny (model prog w) A (call (.type "zip") [.ref l1, .ref l2, .ref l3]) Q E s := by
  refine callType_new PySem.F.called_zip (by decide) (typeCall_zip_3 _ _ _) (newCall_zip_3 _ _ _) (fun obj => args_object_init_4 obj _ _ _) PySem.F.entry_zip_new
    (meets_zip3 l1 l2 l3 xs ys zs) ⟨hl1, hl2, hl3, ?_⟩
  have z1 : (z3H1 s.heap l1).objs.size = s.heap.objs.size + 1 := Heap.size_push ..
  have z2 : (z3H2 s.heap l1 l2).objs.size = s.heap.objs.size + 2 := by rw [Heap.size_push, z1]
  have z3 : (z3H3 s.heap l1 l2 l3).objs.size = s.heap.objs.size + 3 := by rw [Heap.size_push, z2]
  have z4 : (z3H4 s.heap l1 l2 l3).objs.size = s.heap.objs.size + 4 := by rw [Heap.size_push, z3]
  have z5 : (z3H5 s.heap l1 l2 l3).objs.size = s.heap.objs.size + 5 := by rw [Heap.size_push, z4]
  have p : ∀ {h : Heap} {a : Addr} {q : Obj} (o : Obj), h.get? a = some q → (h.push o).get? a = some q := fun o e => Heap.get?_push_of_some _ e
  have g6 : (z3H6 s.heap l1 l2 l3).get? (z3H5 s.heap l1 l2 l3).objs.size = some _ := Heap.get?_push_size _ rfl
  have g5 : (z3H6 s.heap l1 l2 l3).get? (z3H4 s.heap l1 l2 l3).objs.size = some _ := p _ (Heap.get?_push_size _ rfl)
  have g4 : (z3H6 s.heap l1 l2 l3).get? (z3H3 s.heap l1 l2 l3).objs.size = some _ := p _ (p _ (Heap.get?_push_size _ rfl))
  have g3 : (z3H6 s.heap l1 l2 l3).get? (z3H2 s.heap l1 l2).objs.size = some _ := p _ (p _ (p _ (Heap.get?_push_size _ rfl)))
  have g2 : (z3H6 s.heap l1 l2 l3).get? (z3H1 s.heap l1).objs.size = some _ := p _ (p _ (p _ (p _ (Heap.get?_push_size _ rfl))))
  have g1 : (z3H6 s.heap l1 l2 l3).get? s.heap.objs.size = some _ := p _ (p _ (p _ (p _ (p _ (Heap.get?_push_size _ rfl)))))
  show _ ∧ _
  rw [z3, z4, z5] at g6
  rw [z4] at g5
  rw [z1, z2, z3] at g4
  rw [z2] at g3
  rw [z1] at g2
  rw [z5]
  exact ⟨⟨_, g6, rfl⟩, h _ g6 g4 g5 ⟨_, g1, rfl, rfl⟩ ⟨_, g2, rfl, rfl⟩ ⟨_, g3, rfl, rfl⟩ fun c o x => p _ (p _ (p _ (p _ (p _ (p _ x)))))⟩
end
/-- the lists at a, b, c as they stand at each turn, the items in new tuples -/
def Itz3 (K : PySem.W.Frag) (a b c : Addr) : It :=
  ⟨fun i H => ∃ (xs ys zs : List V) (x y v : V), SqL K H a xs ∧ SqL K H b ys ∧ SqL K H c zs ∧ xs[i]? = some x ∧ ys[i]? = some y ∧ zs[i]? = some v,
    fun i H u H' => ∃ T x y v, u = .ref T ∧ H T = none ∧ H' = upd H T (.tup [x, y, v]) ∧ (∀ xs, SqL K H a xs → xs[i]? = some x) ∧ (∀ ys, SqL K H b ys → ys[i]? = some y) ∧ ∀ zs, SqL K H c zs → zs[i]? = some v,
    fun i H => ∃ xs ys zs : List V, SqL K H a xs ∧ SqL K H b ys ∧ SqL K H c zs ∧ (xs.length ≤ i ∨ ys.length ≤ i ∨ zs.length ≤ i)⟩
theorem turn_zip3 {P : Program} {w : World} {K : PySem.W.Frag} {elts : List Expr} {kk : Nat} {tpos : Pos} {l1 l2 l3 z TI TO i1 i2 i3 : Addr} (D : Ap3 z TI TO i1 i2 i3 l1 l2 l3) :
    Turn P w K (.Tuple elts kk tpos) (Itz3 K l1 l2 l3) [z, TI, TO, i1, i2, i3] z (fun i h => IsZip h z TI TO .none ∧ IsTri h TI (.ref i1) (.ref i2) (.ref i3) ∧ (∃ x y v, IsTri h TO x y v) ∧ h.IsListIter i1 l1 i ∧ h.IsListIter i2 l2 i ∧ h.IsListIter i3 l3 i) where
  mem := by simp
  obj := fun i h st c hc => by
    obtain ⟨hz, hTI, ⟨x, y, v, hTO⟩, ⟨o1, e1, _, d1⟩, ⟨o2, e2, _, d2⟩, ⟨o3, e3, _, d3⟩⟩ := st
    have e' : c = z ∨ c = TI ∨ c = TO ∨ c = i1 ∨ c = i2 ∨ c = i3 := by simpa using hc
    rcases e' with q | q | q | q | q | q
    · rw [q]; exact ⟨_, hz, fun v q => nomatch q⟩
    · rw [q]; exact ⟨_, hTI, fun v q => nomatch q⟩
    · rw [q]; exact ⟨_, hTO, fun v q => nomatch q⟩
    · rw [q]; exact ⟨o1, e1, fun v q => by rw [d1] at q; cases q⟩
    · rw [q]; exact ⟨o2, e2, fun v q => by rw [d2] at q; cases q⟩
    · rw [q]; exact ⟨o3, e3, fun v q => by rw [d3] at q; cases q⟩
  keep := fun i h h' st k => by
    obtain ⟨hz, hTI, ⟨x, y, v, hTO⟩, h1, h2, h3⟩ := st
    exact ⟨k z (by simp) _ hz, k TI (by simp) _ hTI, ⟨x, y, v, k TO (by simp) _ hTO⟩, h1.at fun o q => k i1 (by simp) o q, h2.at fun o q => k i2 (by simp) o q, h3.at fun o q => k i3 (by simp) o q⟩
  item := by
    intro X hP hw hK hc i pins s σ H E I hf st hg
    subst hP hw hK
    obtain ⟨hz, hTI, ⟨x0, y0, v0, hTO⟩, h1, h2, h3⟩ := st
    obtain ⟨xs, ys, zs, x, y, v, hqx, hqy, hqv, hx, hy, hv⟩ := hg
    obtain ⟨its, rv, p, _⟩ := I.list hqx
    obtain ⟨its2, rv2, p2, _⟩ := I.list hqy
    obtain ⟨its3, rv3, p3, _⟩ := I.list hqv
    obtain ⟨u, hu, ru⟩ := rv.get hx
    obtain ⟨u2, hu2, ru2⟩ := rv2.get hy
    obtain ⟨u3, hu3, ru3⟩ := rv3.get hv
    have hzl : z < s.heap.objs.size := Heap.lt_size hz
    refine next_zip3_item D hz hTI hTO h1 h2 h3 p.isList p2.isList p3.isList (x := u) (y := u2) (v := u3) (by simpa using hu) (by simpa using hu2) (by simpa using hu3) fun h' z' TO' h1' h2' h3' hT hsz hk => ?_
    refine ⟨_, rfl, wpAny_letOwnedTupleGo_zip (s := { s with heap := h' }) z' fun h'' z'' sb => ?_⟩
    have hT2 : h''.get? s.heap.objs.size = some { cls := .type "tuple", data := .seq #[u, u2, u3] } := (sb.2 _ (Nat.ne_of_gt hzl)).trans hT
    have new : ObjOk X.prog X.w (upd H s.heap.objs.size (.tup [x, y, v])) h'' s.heap.objs.size (.tup [x, y, v]) :=
      ⟨by show 3 ≤ sizeLine; decide, [u, u2, u3], .cons ru (.cons ru2 (.cons ru3 .nil)), ⟨_, hT2, rfl, _, rfl⟩⟩
    have I1 : Inv X pins σ (upd H s.heap.objs.size (.tup [x, y, v])) { s with heap := h'' } :=
      I.turnedNew (t' := s.toks) (ch := [z, TI, TO, i1, i2, i3]) (fun c o hb q => (sb.2 c (fun q' => hb (by simp [q']))).trans (hk c o (fun q' => hb (by simp [q'])) (fun q' => hb (by simp [q'])) (fun q' => hb (by simp [q'])) (fun q' => hb (by simp [q'])) (fun q' => hb (by simp [q'])) q)) hf (Nat.le_refl _) new
    refine ⟨.ref s.heap.objs.size, _, I1, rfl, ⟨_, x, y, v, rfl, I.hok.fresh (Nat.le_refl _), rfl, fun l hl => by rw [I.list_inj hl hqx]; exact hx, fun l hl => by rw [I.list_inj hl hqy]; exact hy, fun l hl => by rw [I.list_inj hl hqv]; exact hv⟩, ⟨z'', ?_, ⟨u, u2, u3, ?_⟩, ?_, ?_, ?_⟩, fun c hcm => ?_⟩
    · exact (sb.2 _ (Ne.symm D.zTI)).trans (hk _ _ (Ne.symm D.zTI) D.TITO D.TIi1 D.TIi2 D.TIi3 hTI)
    · exact (sb.2 _ (Ne.symm D.zTO)).trans TO'
    · exact h1'.at fun o q => (sb.2 _ (Ne.symm D.zi1)).trans q
    · exact h2'.at fun o q => (sb.2 _ (Ne.symm D.zi2)).trans q
    · exact h3'.at fun o q => (sb.2 _ (Ne.symm D.zi3)).trans q
    · have hlt : c < s.heap.objs.size := by
        have e' : c = z ∨ c = TI ∨ c = TO ∨ c = i1 ∨ c = i2 ∨ c = i3 := by simpa using hcm
        rcases e' with q | q | q | q | q | q
        · rw [q]; exact hzl
        · rw [q]; exact Heap.lt_size hTI
        · rw [q]; exact Heap.lt_size hTO
        · rw [q]; obtain ⟨_, e1, _⟩ := h1; exact Heap.lt_size e1
        · rw [q]; obtain ⟨_, e2, _⟩ := h2; exact Heap.lt_size e2
        · rw [q]; obtain ⟨_, e3, _⟩ := h3; exact Heap.lt_size e3
      rw [upd_ne (Nat.ne_of_lt hlt)]
      exact (hf c hcm).1
  done := by
    intro X hP hw hK hc i pins s σ H E I hf st hg
    subst hP hw hK
    obtain ⟨hz, hTI, ⟨x0, y0, v0, hTO⟩, h1, h2, h3⟩ := st
    obtain ⟨xs, ys, zs, hqx, hqy, hqv, hend⟩ := hg
    obtain ⟨its, rv, p, _⟩ := I.list hqx
    obtain ⟨its2, rv2, p2, _⟩ := I.list hqy
    obtain ⟨its3, rv3, p3, _⟩ := I.list hqv
    have l1 := rv.length
    have l2 := rv2.length
    have l3 := rv3.length
    have he : its.toArray[i]? = none ∨ its2.toArray[i]? = none ∨ its3.toArray[i]? = none := by
      rcases hend with q | q | q
      · exact .inl (by simp; omega)
      · exact .inr (.inl (by simp; omega))
      · exact .inr (.inr (by simp; omega))
    exact next_zip3_end (I.ok.hd hc) D hz hTI hTO h1 h2 h3 p.isList p2.isList p3.isList he fun h' hk => ⟨rfl, I.turnedL (t' := s.toks) (ch := [z, TI, TO, i1, i2, i3]) (fun c o hb q =>
      hk c o (fun q' => hb (by simp [q'])) (fun q' => hb (by simp [q'])) (fun q' => hb (by simp [q'])) (fun q' => hb (by simp [q'])) (fun q' => hb (by simp [q'])) q) hf⟩
  self := fun A i s Q E st h => wpAny_pyIter_zip st.1 h
def iZip3 (K : PySem.W.Frag) (ta : TA) : TI := fun σ H R => ta σ H fun vs H1 => ∃ a b c xs ys zs, vs = [.ref a, .ref b, .ref c] ∧ SqL K H1 a xs ∧ SqL K H1 b ys ∧ SqL K H1 c zs ∧ R (Itz3 K a b c) H1
theorem pi_zip3 {X : Cx} {e e2 e3 : Expr} {ta : TA} {p pos tpos : Pos} {elts : List Expr} {kk : Nat} (hg : Gl X "zip") (hm : X.mg "zip" = none) (ha : PA X [e, e2, e3] ta)
    (hs : starEach [e, e2, e3] X.env = (false, eval e X.env) :: starEach [e2, e3] X.env := by rfl) (hpl : (backTo pos (starEach [e2, e3] X.env)).any (·.1) = false := by rfl) :
    PI X (.Tuple elts kk tpos) (.Call (.Name "zip" p) [e, e2, e3] [] pos) (iZip3 X.K ta) := by
  refine ⟨fun pins s σ H R I h => ?_⟩
  refine Call_ (ld_blt I hg hm PyProof.Rows.boot_zip (PyProof.Rows.callWith_type1 (thn (ha.run pos pins s σ H _ I h) fun us s1 ⟨vs, H1, I1, r1, q1⟩ => ?_) hs hpl))
  obtain ⟨a, b, c, xs, ys, zs, ex, hqx, hqy, hqv, q⟩ := q1
  subst ex
  cases r1 with
  | cons r rr =>
    cases rr with
    | cons r' rr =>
      cases rr with
      | cons r'' rr =>
        cases rr
        cases r
        cases r'
        cases r''
        obtain ⟨its, rv, p1, _⟩ := I1.list hqx
        obtain ⟨its2, rv2, p2, _⟩ := I1.list hqy
        obtain ⟨its3, rv3, p3, _⟩ := I1.list hqv
        refine call_zip3 p1.isList p2.isList p3.isList fun h' hz hTI hTO h1 h2 h3 hk => wpAny_pyIter_zip hz ?_
        have I2 : Inv X pins σ H1 { s1 with heap := h' } := I1.kept (t' := s1.toks) hk
        refine ⟨s1.heap.objs.size + 5, [s1.heap.objs.size + 5, s1.heap.objs.size + 3, s1.heap.objs.size + 4, s1.heap.objs.size, s1.heap.objs.size + 1, s1.heap.objs.size + 2], _, _, H1, rfl, I2, turn_zip3 (Ap3.fresh p1.lt p2.lt p3.lt), ⟨hz, hTI, ⟨_, _, _, hTO⟩, h1, h2, h3⟩, fun c hcm => ?_, q⟩
        have e' : c = s1.heap.objs.size + 5 ∨ c = s1.heap.objs.size + 3 ∨ c = s1.heap.objs.size + 4 ∨ c = s1.heap.objs.size ∨ c = s1.heap.objs.size + 1 ∨ c = s1.heap.objs.size + 2 := by simpa using hcm
        have hle : s1.heap.objs.size ≤ c := by
          rcases e' with z | z | z | z | z | z <;> rw [z] <;> first | exact Nat.le_add_right _ _ | exact Nat.le_refl _
        exact I1.fpOk hle (I1.hok.fresh hle)
section
variable {K : PySem.W.Frag}
theorem wk_zip3 {a b c : Addr} {xs ys zs : List V} : Wk (Itz3 K a b c) (min xs.length (min ys.length zs.length)) (fun i u L' => ∃ T x y v, u = .ref T ∧ xs[i]? = some x ∧ ys[i]? = some y ∧ zs[i]? = some v ∧ L' = [(T, .tup [x, y, v])]) (fun L => InL a xs L ∧ InL b ys L ∧ InL c zs L) where
  go := fun L H i hs l hi => by
    have h1 : i < xs.length := by omega
    have h2 : i < ys.length := by omega
    have h3 : i < zs.length := by omega
    exact ⟨xs, ys, zs, xs[i], ys[i], zs[i], hs.1.sq l, hs.2.1.sq l, hs.2.2.sq l, by simp [h1], by simp [h2], by simp [h3]⟩
  yld := fun L H i v H' hs l hi hy => by
    obtain ⟨T, x, y, u, e, n, eH, q1, q2, q3⟩ := hy
    exact ⟨_, ⟨T, x, y, u, e, q1 xs (hs.1.sq l), q2 ys (hs.2.1.sq l), q3 zs (hs.2.2.sq l), rfl⟩, by rw [eH]; exact l.new n⟩
  stop := fun L H hs l => ⟨xs, ys, zs, hs.1.sq l, hs.2.1.sq l, hs.2.2.sq l, by omega⟩
end
def itZ3 (K : PySem.W.Frag) (vs : List V) (H : Hp) (R : It → Hp → Prop) : Prop := ∃ a b c xs ys zs, vs = [.ref a, .ref b, .ref c] ∧ SqL K H a xs ∧ SqL K H b ys ∧ SqL K H c zs ∧ R (Itz3 K a b c) H
section
variable {K : PySem.W.Frag} {L R R' R'' : Lg} {σ : SS} {a b c : Addr} {xs ys zs : List V} {RJ : It → Hp → Prop} {tr : TA}
theorem t_iZ3 (k : Tr L fun H => tr σ H fun x H1 => itZ3 K x H1 RJ) : Tr L fun H => iZip3 K tr σ H RJ := k
theorem t_itZ3 (hp : Pick a (.lst xs) L R) (hq : Pick b (.lst ys) L R') (hr : Pick c (.lst zs) L R'') (k : Tr L fun H => RJ (Itz3 K a b c) H) : Tr L fun H => itZ3 K [.ref a, .ref b, .ref c] H RJ := fun H l => ⟨a, b, c, xs, ys, zs, rfl, sqL hp l, sqL hq l, sqL hr l, k H l⟩
end
end Hz

/-! Hz, part Y: errors as values: except .. as e, what e is an instance of, its fields, classes with an own __init__. -/
namespace Hz
open PySem PySem.Spec PyProof.Rows L2 RZ
/-! ### a caught error as a thing of the ledger -/
/-- at a: an error of the class at C, its dict d -/
def exF (a C : Addr) (d : Option Addr) : HO := .ext fun h => ∃ oe vs, h.get? a = some oe ∧ oe.cls = .ref C ∧ oe.dict = d ∧ oe.data = .fields vs
section
variable {P : Program} {w : World} {H : Hp} {h : Heap} {a C : Addr} {d : Option Addr}
theorem exF_ok {oe : Obj} {vs : Array Value} (e : h.get? a = some oe) (c : oe.cls = .ref C) (dd : oe.dict = d) (f : oe.data = .fields vs) : ObjOk P w H h a (exF a C d) :=
  ⟨⟨oe, vs, e, c, dd, f⟩, ⟨_, e⟩, fun h1 h2 z k => by
    obtain ⟨oe, vs, e, c, dd, f⟩ := z
    exact ⟨oe, vs, k _ e, c, dd, f⟩⟩
theorem exF_at (hok : HOk P w H h) (e : H a = some (exF a C d)) : ∃ oe vs, h.get? a = some oe ∧ oe.cls = .ref C ∧ oe.dict = d ∧ oe.data = .fields vs := by
  have x : ObjOk P w H h a (.ext fun h => ∃ oe vs, h.get? a = some oe ∧ oe.cls = .ref C ∧ oe.dict = d ∧ oe.data = .fields vs) := hok a _ e
  exact x.1
end
section
variable {X : Cx} {pins : List (Addr × Obj)} {σ : L2.St} {H : Hp} {sI s4 : Shared} {a C : Addr} {d : Option Addr}
/-- a new error is taken into the abstract heap -/
theorem inv_give {oe : Obj} {vs : Array Value} (J : Inv X pins σ H sI) (J4 : Inv X pins σ H s4) (hn : sI.heap.get? a = none) (he : s4.heap.get? a = some oe) (hc : oe.cls = .ref C) (hdd : oe.dict = d)
    (hd : oe.data = .fields vs) (na : H a = none) : Inv (X.suite a (X.pn ++ pins)) [] σ (upd H a (exF a C d)) s4 := by
  have ne : ∀ b u, sI.heap.get? b = some u → b ≠ a := fun b u e z => by rw [z, hn] at e; cases e
  have nn : ∀ b o, H b = some o → b ≠ a := fun b o e z => by rw [z, na] at e; cases e
  have nL : X.env.locals ≠ a := by
    obtain ⟨m, ⟨o, _, _, ho, _⟩, _⟩ := J.loc
    exact ne _ _ ho
  refine ⟨J.ok.suite _ _, J4.os, J4.bare, ⟨J4.base.keep, J4.base.slot, fun b o e n hx => ?_, J4.base.there, fun b xs e => ?_, fun b o u e => ?_, fun b ps e => ?_⟩, J4.loc, J4.cell, ?_, fun x c e => ?_, fun p hp => ?_, fun b o e => ?_, J4.len⟩
  · obtain ⟨o', e'⟩ := J.base.there b o e hx
    rw [upd_ne (ne _ _ e')]
    exact J4.base.free b o e n hx
  · have z := J4.base.tups b xs e
    rw [upd_ne (nn _ _ z)]
    exact z
  · have z := J4.base.frzs b o u e
    rw [upd_ne (nn _ _ z)]
    exact z
  · obtain ⟨more, z⟩ := J4.base.tbls b ps e
    exact ⟨more, by rw [upd_ne (nn _ _ z)]; exact z⟩
  · show upd H a (exF a C d) X.env.locals = none
    rw [upd_ne nL]
    exact J4.free
  · obtain ⟨v, o, z, _⟩ := J.cell x c e
    rw [upd_ne (ne _ _ z)]
    exact J4.freeC x c e
  · have hp' : p ∈ X.pn ++ pins := by rw [List.append_nil] at hp; exact hp
    obtain ⟨e, n, nl, nf, nc⟩ := J4.pin p hp'
    exact ⟨e, by rw [upd_ne (ne _ _ (J.pin p hp').1)]; exact n, nl, nf, nc⟩
  · by_cases hb : b = a
    · subst hb
      rw [upd_same] at e
      cases e
      exact exF_ok he hc hdd hd
    · rw [upd_ne hb] at e
      exact (J4.hok b o e).stay (fun _ _ _ q => q) (fun c q => by rw [upd_ne (nn _ _ q)]; exact q) fun c xs q => by rw [upd_ne (nn _ _ q)]; exact q
theorem inv_unsuite {pn' : List (Addr × Obj)} (I : Inv (X.suite a (X.pn ++ pins)) pn' σ H s4) (ok : X.Ok) : Inv X pins σ H s4 :=
  ⟨ok, I.os, I.bare, I.base, I.loc, I.cell, I.free, I.freeC, fun p hp => I.pin p (List.mem_append_left _ hp), I.hok, I.len⟩
end
/-- where the suite's ways go: the clause's name is gone -/
def Ends.gone (D : Ends) (i : Nat) : Ends := { nx := fun σ H => D.nx (σ.set i none) H, rt := D.rt, bk := fun σ H => D.bk (σ.set i none) H, ct := fun σ H => D.ct (σ.set i none) H }
/-- what 'except c as n' (n in slot i) wishes of an error of the body: the clause takes it -/
def wCat (K : PySem.W.Frag) (c : Value) (i : Nat) (ts : TS) (D : Ends) : WX := fun cls d σ H =>
  ∃ C, cls = .ref C ∧ PySem.W.exmOne K cls c = some true ∧ ∀ a, H a = none → ts (Ends.gone D i) (σ.set i (some (.ref a))) (upd H a (exF a C d))
section
variable {X : Cx} {x n : Str} {c : Value} {i : Nat} {body suite : List Stmt} {b₀ : Stmt} {np pos pos' : Pos} {tb : WX → TS} {ts : TS}
theorem ps_try_cat (hs : X.stack = X.env :: X.outer) (hf : X.env.frame = some X.env.locals) (hN : X.N.Nodup) (hi : X.N[i]? = some n) (hln : X.env.kindOf n = some .local) (hc : Names X x c)
    (hb : ∀ (W : WX) (pn : List (Addr × Obj)) (xe : Value → Shared → Prop), Takes (X.tr pn xe) W → PassesOwn (model X.prog X.w) X.A X.env xe → PSs (X.tr pn xe) body (tb W))
    (hsu : ∀ (a : Addr) (pn : List (Addr × Obj)), PSs (X.suite a pn) (b₀ :: suite) ts) :
    PS X (.Try body [.ExceptHandler (some (.Name x np)) (some n) (b₀ :: suite) pos'] [] [] pos) (fun D σ H => tb (wCat X.K c i ts D) D σ H) := by
  refine ⟨fun pins s σ H D I h => ?_⟩
  have ok := I.ok
  have hfr : X.A.frames = some (X.env :: X.outer) := by rw [ok.frames, hs]
  have hloc : Loc X.env.scope n := .inl hln
  refine wpAny_Try_except (wpAny_mono ((hb (wCat X.K c i ts D) (X.pn ++ pins) (fun e s1 => wpAny (model X.prog X.w) X.A (noteFrame e X.env) (fun _ s2 => wpAny (model X.prog X.w) X.A (setFlight e none) (fun _ s3 =>
    wpAny (model X.prog X.w) X.A (handleBy e X.env [.ExceptHandler (some (.Name x np)) (some n) (b₀ :: suite) pos']) (SP X pins D) X.xe s3) X.xe s2) X.xe s1) (fun u s' xx => ?_) PassesOwn.looking).run [] s σ H D (I.toTry _) h)
      (fun f s1 hsp => ?_) fun _ _ z => z)
  · obtain ⟨a, B, sI, pins', σ', H', cls, d, rfl, J', nb, up, sky, na, os, ag, C, rfl, hm, hts⟩ := xx
    have J : Inv X pins σ' H' sI := J'.ofTry ok
    have sky' : Sky B (X.env :: X.outer) a (Zc (.ref C) d) X.env.locals s'.heap := by rw [← hs]; exact sky
    show wpAny _ X.A (noteFrame (.ref a) X.env) _ _ _
    refine Sky.land Zc.steady hfr hf sky' fun h3 fl3 up3 => ?_
    have J3 : Inv X pins σ' H' { s' with heap := h3 } := J.landed nb fl3.1 (up.trans up3) os ag
    obtain ⟨oe3, vs3, he3, hz3, hd3⟩ := fl3.there
    have nfr : a ∉ frs (X.env :: X.outer) := fun hm => by
      obtain ⟨_, o', e', hnf⟩ := fl3.2.2.1.mem hm
      rw [he3] at e'
      cases e'
      exact hnf _ hd3
    have hn : sI.heap.get? a = none := by
      cases e : sI.heap.get? a with
      | none => rfl
      | some o =>
        have z := nb a o e (by rw [hs]; exact nfr)
        rw [fl3.2.1] at z
        cases z
    have S3 := inv_give J J3 hn he3 hz3.1 hz3.2 hd3 na
    refine wpAny_handleBy_cons (codeAny_handlers_test ?_) (by intro q; cases q)
    have LT : PySem.W.Looks (model X.prog X.w) h3 (typeOf (.ref a)) (.ref C) := fun A Q E s k q => wpAny_typeOf_ref (k _ _ he3) (by rw [hz3.1]; exact q)
    have LM := PySem.W.exm_one (M := model X.prog X.w) J3.kIn LT hm
    have test : ∀ {Q : Value → Shared → Prop} {E : Value → Shared → Prop}, Q c { s' with heap := h3 } → wpAny (model X.prog X.w) (X.A.mark (some (.ref a))) (eval (.Name x np) X.env) Q E { s' with heap := h3 } := fun {Q E} q => by
      obtain ⟨hg, hdbg, hm | ⟨hm, hv, hnn⟩⟩ := hc
      · exact ld_glob (X := X.suite a (X.pn ++ pins)) S3 hg hm q hdbg
      · exact ld_blt (X := X.suite a (X.pn ++ pins)) S3 hg hm hv q hnn hdbg
    refine test (LM.here (codeAny_handlers_suite_as (HandSPX.lands_againZ fl3 fun h4 fl4 up4 => ?_)))
    have J4 : Inv X pins σ' H' { s' with heap := h4 } := J.landed nb fl4.1 ((up.trans up3).trans up4) os ag
    obtain ⟨oe4, vs4, he4, hz4, hd4⟩ := fl4.there
    refine store_ok (X := X.suite a (X.pn ++ pins)) (v := .ref a) (inv_give J J4 hn he4 hz4.1 hz4.2 hd4 na) hN hi hloc rfl (fun s5 S5 => ?_) (.inr hln)
    refine wpAny_mono ((hsu a (X.pn ++ pins)).run [] s5 _ _ _ S5 (hts a na)) (fun f s6 hsp => ?_) fun _ _ z => False.elim z
    have end_ : ∀ {σ6 : L2.St} {H6 : Hp} {Q : Shared → Prop}, Inv (X.suite a (X.pn ++ pins)) [] σ6 H6 s6 → (∀ s7, Inv X pins (σ6.set i none) H6 s7 → Q s7) →
        wpAny (model X.prog X.w) X.A (do bindName X.env n .none; unbindBehindTheSuite X.env n pos') (fun _ s7 => Q s7) X.xe s6 := fun {σ6 H6 Q} S6 hq => gone_ok (inv_unsuite S6 ok) hN hi hln hq
    cases f with
    | next =>
      obtain ⟨σ6, H6, S6, q6⟩ := hsp
      exact end_ S6 fun s7 J7 => ⟨_, _, J7, q6⟩
    | brk =>
      obtain ⟨σ6, H6, S6, q6⟩ := hsp
      exact end_ S6 fun s7 J7 => ⟨_, _, J7, q6⟩
    | cont =>
      obtain ⟨σ6, H6, S6, q6⟩ := hsp
      exact end_ S6 fun s7 J7 => ⟨_, _, J7, q6⟩
    | ret u =>
      obtain ⟨v6, σ6, H6, S6, r6, q6⟩ := hsp
      exact end_ S6 fun s7 J7 => ⟨_, _, _, J7, r6, q6⟩
  · cases f with
    | next =>
      obtain ⟨σ', H', J', q⟩ := hsp
      exact wpAny_execs_nil ⟨σ', H', J'.ofTry ok, q⟩
    | brk =>
      obtain ⟨σ', H', J', q⟩ := hsp
      exact ⟨σ', H', J'.ofTry ok, q⟩
    | cont =>
      obtain ⟨σ', H', J', q⟩ := hsp
      exact ⟨σ', H', J'.ofTry ok, q⟩
    | ret u =>
      obtain ⟨v, σ', H', J', r, q⟩ := hsp
      exact ⟨v, σ', H', J'.ofTry ok, r, q⟩
end
section
variable {K : PySem.W.Frag} {L : Lg} {σ : L2.St} {D : Ends} {c : Value} {C : Addr} {d : Option Addr} {i : Nat} {ts : TS}
/-- the clause takes it -/
theorem t_catch (b : PySem.W.exmOne K (.ref C) c = some true) (k : ∀ a, Tr ((a, exF a C d) :: L) fun H => ts (Ends.gone D i) (σ.set i (some (.ref a))) H) : Tr L fun H => wCat K c i ts D (.ref C) d σ H :=
  fun H l => ⟨C, rfl, b, fun a na => k a _ (l.new na)⟩
end
/-! ### what an error is an instance of -/
/-- what the text says of the class at C, so that isinstance asks its instances rightly -/
structure Sbj (K : PySem.W.Frag) (C : Addr) : Prop where
  cl : PySem.W.isClsIn K C = true
  ga : PySem.W.findIn K (.ref C) "__getattribute__" = some (some (.builtin "BaseException.__getattribute__"))
  gg : PySem.W.findIn K (.ref C) "__getattr__" = some none
  su : PySem.W.subIn K (.ref C) (.type "BaseException") = some true
  ha : PySem.W.findIn K (.ref C) "__class__" = some (some (.builtin "object.__class__"))
  hn : PySem.W.specialIn K (.builtin "object.__class__") "__get__" = some (some (.builtin "getset_descriptor.__get__"))
  tk : PySem.W.takesIn K (.builtin "object.__class__") = some true
  hm : PySem.W.mroIn K C (.type "object") = some true
  hd : PySem.W.hasDictIn K C = true
/-- the error at a is tracked -/
def ErH (H : Hp) (a C : Addr) (d : Option Addr) : Prop := H a = some (exF a C d) ∧ ∀ dx, d = some dx → ∃ fs, H dx = some (.xd fs)
theorem er_inst {X : Cx} {pins : List (Addr × Obj)} {σ : L2.St} {H : Hp} {s : Shared} {a C : Addr} {d : Option Addr} (I : Inv X pins σ H s) (e : ErH H a C d) : ∃ ox od, PySem.W.InstAt s.heap a ox C od := by
  obtain ⟨oe, vs, h1, h2, h3, h4⟩ := exF_at I.hok e.1
  cases d with
  | none => exact ⟨oe, none, ⟨h1, h2, by unfold PySem.W.notCls; rw [h4] <;> rfl, by rw [h3]; exact True.intro⟩⟩
  | some dx =>
    obtain ⟨fs, q⟩ := e.2 dx rfl
    obtain ⟨mA, hns, _⟩ := (show ObjOk X.prog X.w H s.heap dx (.xd fs) from I.hok dx _ q)
    obtain ⟨od, ho, _⟩ := lookIn_ns hns
    exact ⟨oe, some od, ⟨h1, h2, by unfold PySem.W.notCls; rw [h4] <;> rfl, by rw [h3]; exact ho⟩⟩
/-- isinstance(e, c) -/
def rIsE (K : PySem.W.Frag) : List V → Hp → VK → Prop := fun xs H Q => ∃ (a C : Addr) (d : Option Addr) (c : V) (u : Value) (b : Bool), xs = [.ref a, c] ∧ ErH H a C d ∧ Sbj K C ∧ ClsV c u ∧ PySem.W.kitOne K (.ref C) u = some b ∧ Q (.bl b) H
/-- isinstance(e, (c, ..)) -/
def rIsET (K : PySem.W.Frag) : List V → Hp → VK → Prop := fun xs H Q => ∃ (a C tp : Addr) (d : Option Addr) (cs : List V) (us : List Value) (b : Bool), xs = [.ref a, .ref tp] ∧ ErH H a C d ∧ Sbj K C ∧ H tp = some (.tup cs) ∧ Paired ClsV cs us ∧ PySem.W.kitAny K (.ref C) us = some b ∧ Q (.bl b) H
section
variable {X : Cx}
theorem c_isE : CallR X (.builtin "isinstance") (rIsE X.K) := by
  intro pins s σ H xs us Q I r h
  obtain ⟨a, C, d, c, u, b, rfl, eh, T, k, e, q⟩ := h
  obtain ⟨u1, u2, rfl, r1, r2⟩ := vals2 r
  have e2 := k.eq r2
  subst e2
  obtain rfl : u1 = Value.ref a := r1
  obtain ⟨ox, od, J⟩ := er_inst I eh
  exact PySem.W.kia_one (PySem.W.kitx_exc T.cl T.ga T.gg T.su T.ha T.hn T.tk T.hm) I.kIn J e (fun z => nomatch z) fun tk => ⟨.bl b, H, I.tok tk, rfl, q⟩
theorem c_isET : CallR X (.builtin "isinstance") (rIsET X.K) := by
  intro pins s σ H xs us Q I r h
  obtain ⟨a, C, tp, d, cs, ws, b, rfl, eh, T, hT, k, e, q⟩ := h
  obtain ⟨u1, u2, rfl, r1, r2⟩ := vals2 r
  cases (show u2 = Value.ref tp from r2)
  obtain rfl : u1 = Value.ref a := r1
  obtain ⟨ox, od, J⟩ := er_inst I eh
  obtain ⟨_, its, rv, o, h1, h2, n, h3⟩ := (show ObjOk X.prog X.w H s.heap tp (.tup cs) from I.hok tp _ hT)
  have e3 := ClsV.all k rv
  subst e3
  obtain ⟨oc, od', dt, sl⟩ := o
  simp only at h2 h3
  subst h2 h3
  exact PySem.W.kia_tup (PySem.W.kitx_exc T.cl T.ga T.gg T.su T.ha T.hn T.tk T.hm) I.kIn J h1 e (fun z => nomatch z) fun tk => ⟨.bl b, H, I.tok tk, rfl, q⟩
/-- e.f, a field of an error -/
def rExA (K : PySem.W.Frag) (f : Str) (x : V) (H : Hp) (Q : VK) : Prop := ∃ (a C dx : Addr) (fs : List (Str × V)) (v : V), x = .ref a ∧ H a = some (exF a C (some dx)) ∧ H dx = some (.xd fs) ∧ Sbj K C ∧
  PySem.W.findIn K (.ref C) f = some none ∧ fs.lookup f = some v ∧ Q v H
def tExA (K : PySem.W.Frag) (f : Str) (te : TE) : TE := fun σ H Q => te σ H fun x H1 => rExA K f x H1 Q
theorem pe_exA {e : Expr} {f : Str} {te : TE} {pos : Pos} (he : PE X e te) (hb : attributeBase e f X.env (eval e X.env) = eval e X.env := by rfl) : PE X (.Attribute e f pos) (tExA X.K f te) := by
  refine ⟨fun pins s σ H Q I h => attr_of hb (thn (he.run pins s σ H _ I h) fun u s1 hh => ?_)⟩
  obtain ⟨x, H1, I1, rx, a, C, dx, fs, v, ex, ea, ed, T, no, lk, q⟩ := hh
  subst ex
  obtain rfl : u = Value.ref a := rx
  obtain ⟨oe, vs, h1, h2, h3, h4⟩ := exF_at I1.hok ea
  obtain ⟨mA, hns, hr⟩ := (show ObjOk X.prog X.w H1 s1.heap dx (.xd fs) from I1.hok dx _ ed)
  obtain ⟨od, ho, hl⟩ := lookIn_ns hns
  obtain ⟨u, hu, ru⟩ := RelO.some_of (v := v) (o := mA f) (by rw [← lk]; exact hr f)
  have J : PySem.W.InstAt s1.heap a oe C (some od) := ⟨h1, h2, by unfold PySem.W.notCls; rw [h4] <;> rfl, by rw [h3]; exact ho⟩
  exact HandSPX.exc_get I1.kIn J T.ga T.gg T.su (PySem.W.findObj_own T.hd no rfl (by rw [hl, hu])) (handed_of ru) ⟨v, H1, I1.tok _, ru, q⟩
end
section
variable {K : PySem.W.Frag} {L R R' : Lg} {a C : Addr} {Q : VK} {b : Bool}
/-- the error at a, by the ledger -/
def Er (L : Lg) (a C : Addr) : Prop := ∃ d, (a, exF a C d) ∈ L ∧ ∀ dx, d = some dx → ∃ fs, (dx, HO.xd fs) ∈ L
theorem Er.mono {M : Lg} (h : Er L a C) (s : ∀ p ∈ L, p ∈ M) : Er M a C := by
  obtain ⟨d, m, k⟩ := h
  exact ⟨d, s _ m, fun dx e => by obtain ⟨fs, z⟩ := k dx e; exact ⟨fs, s _ z⟩⟩
theorem Er.one (h : (a, exF a C none) ∈ L) : Er L a C := ⟨none, h, fun _ e => nomatch e⟩
theorem Er.two {dx : Addr} {fs : List (Str × V)} (h : (a, exF a C (some dx)) ∈ L) (k : (dx, HO.xd fs) ∈ L) : Er L a C := ⟨some dx, h, fun _ e => ⟨fs, by cases e; exact k⟩⟩
theorem Er.get {H : Hp} (h : Er L a C) (l : Led H L) : ∃ d, ErH H a C d := by
  obtain ⟨d, m, k⟩ := h
  exact ⟨d, l.has _ m, fun dx e => by obtain ⟨fs, z⟩ := k dx e; exact ⟨fs, l.has _ z⟩⟩
theorem t_isE {D : Addr} (h : Er L a C) (T : Sbj K C) (e : PySem.W.kitOne K (.ref C) (.ref D) = some b) (k : Tr L fun H => Q (.bl b) H) : Tr L fun H => rIsE K [.ref a, .ref D] H Q := fun H l => by
  obtain ⟨d, eh⟩ := h.get l
  exact ⟨a, C, d, _, _, b, rfl, eh, T, .own D, e, k H l⟩
theorem t_isEB {n : String} (h : Er L a C) (T : Sbj K C) (e : PySem.W.kitOne K (.ref C) (.type n) = some b) (k : Tr L fun H => Q (.bl b) H) : Tr L fun H => rIsE K [.ref a, .ty n] H Q := fun H l => by
  obtain ⟨d, eh⟩ := h.get l
  exact ⟨a, C, d, _, _, b, rfl, eh, T, .ty n, e, k H l⟩
def clsOf : V → Value
  | .ref C => .ref C
  | .ty n => .type n
  | _ => .none
def isCl : V → Bool
  | .ref _ => true
  | .ty _ => true
  | _ => false
theorem cls_all : ∀ cs : List V, cs.all isCl = true → Paired ClsV cs (cs.map clsOf)
  | [], _ => .nil
  | c :: cs, h => by
    rw [List.all_cons, Bool.and_eq_true] at h
    refine .cons ?_ (cls_all cs h.2)
    cases c with
    | ref C => exact .own C
    | ty n => exact .ty n
    | non => cases h.1
    | bl b => cases h.1
    | int b => cases h.1
    | str b => cases h.1
    | _ => cases h.1
theorem t_isET {tp : Addr} {cs : List V} (h : Er L a C) (T : Sbj K C) (hp : Pick tp (.tup cs) L R) (hc : cs.all isCl = true) (e : PySem.W.kitAny K (.ref C) (cs.map clsOf) = some b) (k : Tr L fun H => Q (.bl b) H) : Tr L fun H => rIsET K [.ref a, .ref tp] H Q := fun H l => by
  obtain ⟨d, eh⟩ := h.get l
  exact ⟨a, C, tp, d, _, _, b, rfl, eh, T, l.get hp, cls_all cs hc, e, k H l⟩
/-- e.f -/
theorem t_exA {dx : Addr} {fs : List (Str × V)} {f : Str} {v : V} (hp : Pick a (exF a C (some dx)) L R) (hd : Pick dx (.xd fs) L R') (T : Sbj K C) (no : PySem.W.findIn K (.ref C) f = some none) (lk : fs.lookup f = some v)
    (k : Tr L fun H => Q v H) : Tr L fun H => rExA K f (.ref a) H Q := fun H l => ⟨a, C, dx, fs, v, rfl, l.get hp, l.get hd, T, no, lk, k H l⟩
theorem t_exA0 {σ : L2.St} {f : Str} {te : TE} (k : Tr L fun H => te σ H fun x H1 => rExA K f x H1 Q) : Tr L fun H => tExA K f te σ H Q := k
end
/-! ### str(i), repr(i) -/
def rStrI : List V → Hp → VK → Prop := fun xs H Q => ∃ i : Int, xs = [.int i] ∧ i.natAbs.log2 < 1920 ∧ Q (.str (toString i)) H
theorem c_strI {X : Cx} : CallR X (.type "str") rStrI := call_str_int
theorem str_ok {i : Int} (h0 : -1000000 ≤ i) (h1 : i ≤ 1000000) : i.natAbs < 2 ^ 1000 := by
  have z : (1000001 : Nat) < 2 ^ 1000 := by decide
  omega
theorem t_strI {L : Lg} {i : Int} {Q : VK} (h : i.natAbs < 2 ^ 1000) (k : Tr L fun H => Q (.str (toString i)) H) : Tr L fun H => rStrI [.int i] H Q := fun H l =>
  ⟨i, rfl, by
    by_cases z : i.natAbs = 0
    · rw [z]; decide
    · exact Nat.lt_trans ((Nat.log2_lt z).mpr h) (by decide), k H l⟩
def rReprI : List V → Hp → VK → Prop := fun xs H Q => ∃ i : Int, xs = [.int i] ∧ -999999999999 ≤ i ∧ i ≤ 999999999999 ∧ Q (.str (toString i)) H
theorem c_reprI {X : Cx} (gd : X.A.guards = some []) (hu : X.A.units + 64 < cLine) : CallR X (.builtin "repr") rReprI := fun pins s σ H xs us Q I r ⟨i, e, h1, h2, q⟩ =>
  call_repr gd hu pins s σ H xs us Q I r ⟨.int i, .int i, e, .int i, by
    have : (2 ^ 1920 : Nat) > 999999999999 := by decide
    simp only [PyData.showable, decide_eq_true_eq]
    by_cases z : i.natAbs = 0
    · rw [z]; decide
    · exact (Nat.log2_lt z).mpr (by omega), by simp only [PyData.depth]; decide, by have := PyData.shown_int_le2 h1 h2; rw [sizeLine_eq]; omega, by
    have e : (PyData.int i).shown = (toString i : Str) := by simp only [PyData.shown]
    rw [e]; exact q⟩
theorem t_reprInt {L : Lg} {i : Int} {Q : VK} (h1 : -999999999999 ≤ i) (h2 : i ≤ 999999999999) (k : Tr L fun H => Q (.str (toString i)) H) : Tr L fun H => rReprI [.int i] H Q := fun H l => ⟨i, rfl, h1, h2, k H l⟩
theorem strI_len {i : Int} (h1 : -999999999999 ≤ i) (h2 : i ≤ 999999999999) : (toString i : Str).length ≤ 13 := by
  have e := PyData.shown_int_le2 h1 h2
  simpa only [PyData.shown] using e
theorem strOk_of (s : String) : PyData.strOk (Str.ofString s) = true := by
  unfold PyData.strOk
  rw [Str.ofString_eq_toList]
  simp only [List.all_toArray, List.all_map, List.all_eq_true, Function.comp_apply, decide_eq_true_eq]
  intro c _
  have := c.valid
  rcases this with h | h
  · exact Nat.lt_trans h (by decide)
  · exact h.2
theorem strOk_add {x y : Str} (a : PyData.strOk x = true) (b : PyData.strOk y = true) : PyData.strOk (x ++ y) = true := by
  unfold PyData.strOk at a b ⊢
  show ((x.cps ++ y.cps).all _) = true
  rw [Array.all_append, a, b]; rfl
def rAddS (x y : V) (H : Hp) (Q : VK) : Prop := ∃ i j, x = .str i ∧ y = .str j ∧ i.length + j.length ≤ sizeLine ∧ Q (.str (i ++ j)) H
theorem op_addS {X : Cx} : OpR X (binaryOp .Add) rAddS := op_add_str
theorem t_addS {L : Lg} {x y : Str} {Q : VK} (h : x.length + y.length ≤ 10000) (k : Tr L fun H => Q (.str (x ++ y)) H) : Tr L fun H => rAddS (.str x) (.str y) H Q :=
  fun H l => ⟨x, y, rfl, rfl, by rw [sizeLine_eq]; omega, k H l⟩
theorem t_addStr {L : Lg} {x y : Str} {G : V → Hp → Prop} (h : x.length + y.length ≤ 10000) (k : Tr L fun H => G (.str (x ++ y)) H) : Tr L fun H => ∃ i j, V.str x = V.str i ∧ V.str y = V.str j ∧ i.length + j.length ≤ sizeLine ∧ G (.str (i ++ j)) H :=
  fun H l => ⟨x, y, rfl, rfl, by rw [sizeLine_eq]; omega, k H l⟩
theorem t_gone {L : Lg} {D : Ends} {i : Nat} {σ τ : L2.St} (w : σ.set i none = τ) (k : Tr L fun H => D.nx τ H) : Tr L fun H => (Ends.gone D i).nx σ H := by subst w; exact k
theorem t_goneR {L : Lg} {D : Ends} {i : Nat} {v : V} (k : Tr L fun H => D.rt v H) : Tr L fun H => (Ends.gone D i).rt v H := k
/-! ### count of truth values -/
def eqb (k : Bool) (v : Value) : Bool := match v with
  | .bool b => b == k
  | _ => false
theorem bools_gives {k : Bool} : ∀ {us : List Value} {bs : List Bool}, Vals (bs.map V.bl) us → (∀ y ∈ us, ∀ A s, SeqAt.EqAt A s y (.bool k) (eqb k y)) ∧ us.countP (eqb k) = bs.count k
  | [], [], _ => ⟨fun y hy => by (cases hy), rfl⟩
  | u :: us, b :: bs, h => by
    cases h with
    | cons r h =>
      obtain rfl : u = Value.bool b := r
      obtain ⟨h1, h2⟩ := bools_gives (k := k) h
      refine ⟨fun y hy => ?_, ?_⟩
      · rcases List.mem_cons.mp hy with e | e
        · rw [e]
          exact fun A s => SeqAt.EqAt.bool_bool b k
        · exact h1 y e
      · rw [List.countP_cons, h2, List.count_cons]
        show _ + (if (b == k) = true then 1 else 0) = _
        rfl
  | [], _ :: _, h => nomatch h
  | _ :: _, [], h => nomatch h
def rCntB (K : PySem.W.Frag) : V → List V → Hp → VK → Prop := fun x xs H Q => ∃ (p : Addr) (bs : List Bool) (k : Bool), x = .ref p ∧ xs = [.bl k] ∧ SqL K H p (bs.map V.bl) ∧ Q (.int (bs.count k : Nat)) H
theorem mt_countB {X : Cx} : MtR X "list.count" (rCntB X.K) := by
  intro pins s σ H x xs v us Q I rx rxs h
  obtain ⟨p, bs, k, rfl, rfl, hs, q⟩ := h
  cases rx
  obtain ⟨u, rfl, ru⟩ := rxs.one
  obtain rfl : u = Value.bool k := ru
  obtain ⟨its, rv, ⟨⟨cls, dd, data, sl⟩, n, ho, hc, hdn, hd⟩, hlen⟩ := I.list hs
  simp only at hc hd
  subst hc hd
  obtain ⟨g1, g2⟩ := bools_gives (k := k) rv
  refine call_meets PySem.F.slot_list_count ⟨_, ho, rfl⟩ PySem.F.entry_list_count (PySem.F.args_list_count_2 _ _)
    (SeqAt.list_countAt p its.toArray n dd sl (.bool k) (eqb k)) ⟨ho, fun y hy => g1 y (by simpa using hy) _ _, ?_⟩
  refine ⟨.int (bs.count k : Nat), H, I.tok _, ⟨s.toks, ?_⟩, q⟩
  show Value.int ((its.toArray.toList.countP (eqb k) : Nat) : Int) s.toks = Value.int ((bs.count k : Nat) : Int) s.toks
  rw [show its.toArray.toList.countP (eqb k) = bs.count k from g2]
theorem t_countB {K : PySem.W.Frag} {L R : Lg} {p : Addr} {bs : List Bool} {k : Bool} {Q : VK} (hp : Pick p (.lst (bs.map V.bl)) L R) (q : Tr L fun H => Q (.int (bs.count k : Nat)) H) : Tr L fun H => rCntB K (.ref p) [.bl k] H Q :=
  fun H l => ⟨p, bs, k, rfl, rfl, sqL hp l, q H l⟩
theorem flat_bools : ∀ bs : List Bool, (bs.map V.bl).all flatV = true
  | [] => rfl
  | b :: bs => by rw [List.map_cons, List.all_cons, flat_bools bs]; rfl
theorem t_indexB {K : PySem.W.Frag} {L R : Lg} {p : Addr} {bs : List Bool} {k : Bool} {Q : VK} (j : Nat) (hp : Pick p (.lst (bs.map V.bl)) L R) (h1 : bs[j]? = some k) (h2 : ∀ m, m < j → bs[m]? ≠ some k) (q : Tr L fun H => Q (.int (j : Nat)) H) : Tr L fun H => rIndex K (.ref p) [.bl k] H Q :=
  fun H l => ⟨p, bs.map V.bl, .bl k, j, .bl k, rfl, rfl, sqL hp l, rfl, flat_bools bs, by rw [List.getElem?_map, h1]; rfl, by show (k == k) = true; cases k <;> rfl, fun m z' hm hz => by
    rw [List.getElem?_map] at hz
    cases e : bs[m]? with
    | none => rw [e] at hz; cases hz
    | some w =>
      rw [e] at hz
      cases hz
      show (w == k) = false
      have := h2 m hm
      rw [e] at this
      cases w <;> cases k <;> simp_all, q H l⟩
/-! ### a def out of a list of defs -/
/-- the def at f keeps the promise -/
def FO (P : Program) (w : World) (K : PySem.W.Frag) (mg : Str → Option Value) (base : Heap) (CX : CXT) (k : Nat) (f : Addr) (sp : Sp) : Prop := ∃ (fd : FuncData) (ps : List Str), PySem.W.keepIn K (.ref f) = true ∧ Binds K fd ps [] ∧ FnG P w K mg base CX k f fd ps sp
theorem ok_fv {P : Program} {w : World} {K : PySem.W.Frag} {mg : Str → Option Value} {base : Heap} {CX : CXT} {k : Nat} {x : Str} {ps : List Str} {sp : Sp} (h : Ok P w K mg base CX k x ps sp) : ∃ f, GV mg x (.ref f) ∧ ∀ j, k ≤ j → FO P w K mg base CX j f sp := by
  obtain ⟨f, fd, hm, hk, hb, F, _⟩ := h
  exact ⟨f, ⟨_, hm, rfl⟩, fun j hj => ⟨fd, ps, hk, hb, F.mono hj⟩⟩
def rFV (F : Addr → Sp → Prop) (E : XK) (ta : TA) (σ : L2.St) (v : V) (H : Hp) (Q : VK) : Prop := ∃ f sp, v = .ref f ∧ F f sp ∧ ta σ H fun vs H2 => sp vs H2 Q E
def tCallV (F : Addr → Sp → Prop) (E : L2.St → XK) (tf : TE) (ta : TA) : TE := fun σ H Q => tf σ H fun v H1 => rFV F (E σ) ta σ v H1 Q
theorem pe_callV {X : Cx} {CX : CXT} {k : Nat} {fe e : Expr} {es : List Expr} {tf : TE} {ta : TA} {E : L2.St → XK} {pos : Pos} (hr : RoomG k X.A) (hx : ∀ σ, PassesAt CX X σ (E σ)) (hf : PE X fe tf) (ha : PA X (e :: es) ta)
    (hc : eval (.Call fe (e :: es) [] pos) X.env = (do callWith pos (← eval fe X.env) [] (backTo pos (starEach (e :: es) X.env)) (backToKw pos (keywordEach [] X.env))) := by rfl)
    (he : starEach (e :: es) X.env = (false, eval e X.env) :: starEach es X.env := by rfl) (hpl : (backTo pos (starEach es X.env)).any (·.1) = false := by rfl) :
    PE X (.Call fe (e :: es) [] pos) (tCallV (FO X.prog X.w X.K X.mg X.base CX k) E tf ta) := by
  refine ⟨fun pins s σ H Q I h => ?_⟩
  rw [hc]
  refine wpAny_bind (thn (hf.run pins s σ H _ I h) fun u s1 ⟨v, H1, I1, rv, f, sp, ev, ⟨fd, ps, hk, hb, F⟩, q⟩ => ?_)
  subst ev
  obtain rfl : u = Value.ref f := rv
  exact PySem.W.callWith_K (h₀ := X.base) I1.ok.mod.kin hk (thn (ha.run pos pins s1 σ H1 _ I1 q) fun us s2 ⟨vs, H2, I2, r, q2⟩ => ⟨I2.kIn, runG F hr hb (hx σ) I2 r q2⟩) he hpl
section
variable {L : Lg} {σ : L2.St} {F : Addr → Sp → Prop} {E : L2.St → XK} {tf : TE} {ta : TA} {Q : VK}
theorem t_callV (k : Tr L fun H => tf σ H fun v H1 => rFV F (E σ) ta σ v H1 Q) : Tr L fun H => tCallV F E tf ta σ H Q := k
theorem t_FV {E : XK} {f : Addr} {sp : Sp} (h : F f sp) (k : Tr L fun H => ta σ H fun vs H2 => sp vs H2 Q E) : Tr L fun H => rFV F E ta σ (.ref f) H Q := fun H l => ⟨f, sp, rfl, h, k H l⟩
end
/-! ### classes with an own __init__ -/
/-- S.__init__(self, 'm'), S a class above ValueError that has none of its own -/
theorem pe_cinit {X : Cx} {e : Expr} {es : List Expr} {ta : TA} {p1 p2 pos : Pos} {pl : Sem Bool} {x : Str} {S : Addr} {mc : Value} (hg : Gl X x) (hm : X.mg x = some (.ref S)) (r : ClX.CRead X.K S mc)
    (vV : PySem.W.findCls X.K (.ref S) mc "__init__" = some (.val (.builtin "ValueError.__init__"))) (ha : PA X (e :: es) ta) (hdb : (x == ("__debug__" : Str)) = false := by decide)
    (hc : eval (.Call (.Attribute (.Name x p1) "__init__" p2) (e :: es) [] pos) X.env = (do
      let ov ← eval (.Name x p1) X.env
      standAt p2.atName
      let (f, first) ← holding [ov] (getMethod ov "__init__" pl)
      callWith pos f first (backTo pos (starEach (e :: es) X.env)) (backToKw pos (keywordEach [] X.env))) := by rfl)
    (he : starEach (e :: es) X.env = (false, eval e X.env) :: starEach es X.env := by rfl) (hpl : (backTo pos (starEach es X.env)).any (·.1) = false := by rfl) :
    PE X (.Call (.Attribute (.Name x p1) "__init__" p2) (e :: es) [] pos) (tVeI X.K ta) := by
  refine ⟨fun pins s σ H Q I h => PySem.W.methodCall_KW (ld_glob I hg hm ?_ hdb) hc⟩
  refine PySem.W.method_cls I.kIn r.ga (PySem.W.cls_value I.kIn r.rd vV rfl ?_)
  show wpAny _ _ (callWith pos (Value.builtin "ValueError.__init__") [] (backTo pos (starEach (e :: es) X.env)) []) _ _ _
  refine PyProof.Rows.callWith_method1 (thn (ha.run pos pins _ σ H _ (I.tok _) h) fun us s1 ⟨vs, H1, I1, r1, a, C, ws, ev, hl, T, ea, q⟩ => ?_) he hpl
  subst ev
  cases r1 with
  | @cons _ u0 _ ur ra rw' =>
    obtain rfl : u0 = Value.ref a := ra
    exact oinit_ok T I1 ea (by rw [← Paired.length rw', sizeLine_eq]; omega) fun s' J => ⟨.non, H1, J, rfl, q⟩
/-- the promise of such an __init__: the field f is set -/
def spI (C : Addr) (f : Str) : Sp := fun vs H Q _ => ∃ (a : Addr) (y : V), vs = [.ref a, y] ∧ H a = some (exo a C none) ∧ ∀ dx, H dx = none → dx ≠ a → Q .non (upd (upd H dx (exd dx [(f, y)])) a (exo a C (some dx)))
/-- C(e) -/
def rErr (C : Addr) (f : Str) (vs : List V) (H : Hp) (Q : XK) : Prop := ∃ y, vs = [y] ∧ ∀ d, H d = none → Q (.ref C) (some d) (upd H d (.xd [(f, y)]))
def tErr (C : Addr) (f : Str) (ta : TA) : L2.St → Hp → XK → Prop := fun σ H Q => ta σ H fun vs H1 => rErr C f vs H1 Q
theorem PMk.imp {X : Cx} {e : Expr} {t t' : L2.St → Hp → XK → Prop} (h : PMk X e t) (z : ∀ σ H Q, t' σ H Q → t σ H Q) : PMk X e t' := fun pins s σ H Q I y => h pins s σ H Q I (z σ H Q y)
def tWk (ta : TA) : TA := fun σ H k => ∃ k1, ta σ H k1 ∧ ∀ vs H1, k1 vs H1 → k vs H1
theorem pa_wk {X : Cx} {es : List Expr} {ta : TA} (ha : PA X es ta) : PA X es (tWk ta) := ⟨fun pos pins s σ H Q I h => by
  obtain ⟨k1, h1, z⟩ := h
  exact thn (ha.run pos pins s σ H k1 I h1) fun us s1 ⟨vs, H1, I1, r, q⟩ => ⟨vs, H1, I1, r, z _ _ q⟩⟩
theorem err_mk {C : Addr} {f : Str} {vs : List V} {H : Hp} {Q : XK} (h : rErr C f vs H Q) : vs.length ≤ 1000 ∧ ∀ a, H a = none → spI C f (.ref a :: (vs ++ [])) (upd H a (exo a C none))
    (fun v H2 => v = .non ∧ ∃ (d : Addr) (fs : List (Str × V)), H2 a = some (exo a C (some d)) ∧ H2 d = some (exd d fs) ∧ H d = none ∧ Q (.ref C) (some d) (upd (del H2 a) d (.xd fs))) (fun _ _ _ => False) := by
  obtain ⟨y, rfl, k⟩ := h
  refine ⟨by show 1 ≤ 1000; omega, fun a na => ⟨a, y, rfl, upd_same, fun dx hd ne => ⟨rfl, dx, [(f, y)], upd_same, by rw [upd_ne ne, upd_same], by rw [upd_ne ne] at hd; exact hd, ?_⟩⟩⟩
  have hd' : H dx = none := by rw [upd_ne ne] at hd; exact hd
  have e : upd (del (upd (upd (upd H a (exo a C none)) dx (exd dx [(f, y)])) a (exo a C (some dx))) a) dx (.xd [(f, y)]) = upd H dx (.xd [(f, y)]) := by
    funext b
    by_cases hb : b = dx
    · subst hb; rw [upd_same, upd_same]
    · rw [upd_ne hb, upd_ne hb]
      by_cases ha : b = a
      · subst ha; rw [del_same, na]
      · rw [del_ne ha, upd_ne ha, upd_ne hb, upd_ne ha]
  rw [e]
  exact k dx hd'
/-- what is known of such a class at C -/
structure ErrI (P : Program) (w : World) (K : PySem.W.Frag) (mg : Str → Option Value) (base : Heap) (x f : Str) (C : Addr) : Prop where
  g : mg x = some (.ref C)
  T : OexC K C
  ini : ∃ (fI : Addr) (fd : FuncData), PySem.W.findIn K (.ref C) "__init__" = some (some (.ref fI)) ∧ PySem.W.typeIn K (.ref fI) = some (.type "function") ∧ Binds K fd ["self", f] [] ∧ FnOk P w K mg base CX0 1 fI fd ["self", f] (spI C f)
theorem pe_mkI {X : Cx} {x f : Str} {C : Addr} {ta : TA} {e : Expr} {p pos : Pos} {k : Nat} (T : ErrI X.prog X.w X.K X.mg X.base x f C) (hr : Room k X.A) (ha : PA X [e] ta) (hk : 2 ≤ k) (hg : Gl X x := by rfl) (hdb : (x == ("__debug__" : Str)) = false := by decide)
    (he : starEach [e] X.env = (false, eval e X.env) :: starEach [] X.env := by rfl) (hpl : (backTo pos (starEach [] X.env)).any (·.1) = false := by rfl) : PMk X (.Call (.Name x p) [e] [] pos) (tErr C f ta) := by
  obtain ⟨fI, fd, iC, tI, hb, F⟩ := T.ini
  exact PMk.imp (pmk_oex T.T iC tI F (hr.mono hk) hb .nil pass0 hg T.g (pa_wk ha) hdb he hpl) fun σ H Q h => ⟨_, h, fun vs H1 z => err_mk z⟩
def tRz (W : WX) (t : L2.St → Hp → XK → Prop) : TS := fun _ σ H => t σ H fun cls d H' => W cls d σ H'
theorem ps_raiseI {X : Cx} {W : WX} {e : Expr} {t : L2.St → Hp → XK → Prop} {pos : Pos} (hc : X.calm = true) (tk : Takes X W) (he : PMk X e t) : PS X (.Raise (some e) none pos) (tRz W t) := ps_raise hc tk he
section
variable {L : Lg} {σ : L2.St} {D : Ends} {W : WX} {t : L2.St → Hp → XK → Prop} {C : Addr} {f : Str} {ta : TA} {Q : XK} {y : V}
theorem t_rz (k : Tr L fun H => t σ H fun cls d H' => W cls d σ H') : Tr L fun H => tRz W t D σ H := k
theorem t_err (k : Tr L fun H => ta σ H fun vs H1 => rErr C f vs H1 Q) : Tr L fun H => tErr C f ta σ H Q := k
theorem t_rErr (k : ∀ d, Tr ((d, .xd [(f, y)]) :: L) fun H => Q (.ref C) (some d) H) : Tr L fun H => rErr C f [y] H Q := fun H l => ⟨y, rfl, fun d hd => k d _ (l.new hd)⟩
end
theorem GV.ref {mg : Str → Option Value} {x : Str} {C : Addr} (h : GV mg x (.ref C)) : mg x = some (.ref C) := by
  obtain ⟨u, e, r⟩ := h
  obtain rfl : u = Value.ref C := r
  exact e
/-! ### from the text -/
/-- the statement at place j of a class's body -/
def inCls (s : Stmt) (j : Nat) : Stmt := match s with
  | .ClassDef _ _ _ b _ _ _ _ _ _ _ => b.getD j (.Pass ⟨0, 0, 0, 0⟩)
  | s => s
section
variable {P : Program} {w : World} {K : PySem.W.Frag} {mg : Str → Option Value} {base : Heap}
theorem init_ok {f qual : Str} {st : Stmt} {fI C : Addr} {od an : Option Addr} {sl : Array (Option Value)} {oc kV dc pm cd ct : Value} {t : TS} (S : FnScope ["self", f] ["self", f] (defScope st))
    (lk : K.lookup fI = some ⟨oc, od, .func (PySem.W.fnOf "__init__" qual (defArgs st) (defBody st) (defScope st) .none kV dc pm an cd ct), sl⟩) (hcd : PySem.W.codeIn K cd qual = true)
    (body : ∀ (A : Around) (outer : List Env) (s : Shared) (H : Hp) (Q : VK) (E : XK), PSs (cxOf CX0 P w K mg base ["self", f] qual (defScope st) fI cd A outer s H E).nox (defBody st) t)
    (run : ∀ (a : Addr) (y : V) (H : Hp) (Q : VK), H a = some (exo a C none) → (∀ dx, H dx = none → dx ≠ a → Q .non (upd (upd H dx (exd dx [(f, y)])) a (exo a C (some dx)))) → t { nx := fun _ H' => Q .non H', rt := Q } [some (.ref a), some y] H) :
    FnOk P w K mg base CX0 1 fI (PySem.W.fnOf "__init__" qual (defArgs st) (defBody st) (defScope st) .none kV dc pm an cd ct) ["self", f] (spI C f) :=
  fn_of lk hcd S (fun vs H Q E h => by obtain ⟨a, y, rfl, _⟩ := h; rfl) fun A outer s H vs Q E hr hsp => by
    obtain ⟨a, y, rfl, ea, k⟩ := hsp
    exact ⟨t, (body A outer s H Q E).nox, run a y H Q ea k⟩
/-- the reading of such an __init__ -/
def tIni (K : PySem.W.Frag) (m f : Str) : TS := tSeq (tDrop (tVeI K (tCons (tVar 0) (tCons (tC (.str m)) tNil)))) (tOst K f (tVar 0) (tVar 1))
theorem ini_run {m f : Str} {C a : Addr} {y : V} {H : Hp} {Q : VK} (T : OexC K C) (no : PySem.W.findIn K (.ref C) f = some none) (ea : H a = some (exo a C none)) (k : ∀ dx, H dx = none → dx ≠ a → Q .non (upd (upd H dx (exd dx [(f, y)])) a (exo a C (some dx)))) :
    tIni K m f { nx := fun _ H' => Q .non H', rt := Q } [some (.ref a), some y] H := by
  refine ⟨.ref a, rfl, a, C, [.str m], rfl, by show 1 ≤ 1000; omega, T, ea, y, rfl, .ref a, rfl, a, C, rfl, T, no, .inl ⟨ea, k⟩⟩
/-- a class with its own __init__, all of it -/
theorem errI_mk {f x qual : Str} {st : Stmt} {fI S C N : Addr} {nm q : Str} {bs sub : List Value} {sn : List Str} {ab : Bool} {col : Option Bool} {dd : Option Addr} {k0 k1 k2 k3 k5 : Option Value} {od an : Option Addr} {sl : Array (Option Value)} {oc kV dc pm cd ct : Value} {t : TS}
    (S0 : FnScope ["self", f] ["self", f] (defScope st)) (body : ∀ (S : Addr), mg "StickyHeadsError" = some (.ref S) → ClX.CRead K S (.type "type") → PySem.W.findCls K (.ref S) (.type "type") "__init__" = some (.val (.builtin "ValueError.__init__")) →
      ∀ (A : Around) (outer : List Env) (s : Shared) (H : Hp) (Q : VK) (E : XK), PSs (cxOf CX0 P w K mg base ["self", f] qual (defScope st) fI cd A outer s H E).nox (defBody st) t)
    (run : ∀ (a : Addr) (y : V) (H : Hp) (Q : VK), OexC K C → PySem.W.findIn K (.ref C) f = some none → H a = some (exo a C none) → (∀ dx, H dx = none → dx ≠ a → Q .non (upd (upd H dx (exd dx [(f, y)])) a (exo a C (some dx)))) → t { nx := fun _ H' => Q .non H', rt := Q } [some (.ref a), some y] H)
    (binds : ∀ (us : List Value), us.length = 2 → bindArgs (PySem.W.fnOf "__init__" qual (defArgs st) (defBody st) (defScope st) .none kV dc pm an cd ct) ⟨us, []⟩ = pure ((["self", f] : List Str).zip us))
    (g : GV mg x (.ref C)) (gS : GV mg "StickyHeadsError" (.ref S)) (iC : PySem.W.findIn K (.ref C) "__init__" = some (some (.ref fI))) (tI : PySem.W.typeIn K (.ref fI) = some (.type "function"))
    (lk : K.lookup fI = some ⟨oc, od, .func (PySem.W.fnOf "__init__" qual (defArgs st) (defBody st) (defScope st) .none kV dc pm an cd ct), sl⟩) (hcd : PySem.W.codeIn K cd qual = true)
    (xL : K.lookup C = some (excClassObj nm q C N bs [.ref S, .type "ValueError", .type "Exception", .type "BaseException", .type "object"] true sn sub ab col dd k0 k1 k2 k3 k5 "ValueError.__new__"))
    (sa : PySem.W.findIn K (.ref C) "__setattr__" = some (some (.builtin "object.__setattr__"))) (exC : PySem.W.subIn K (.ref C) (.type "BaseException") = some true) (tyC : PySem.W.typeIn K (.ref C) = some (.type "type")) (kC : PySem.W.keepIn K (.ref C) = true)
    (no : PySem.W.findIn K (.ref C) f = some none) (rd : PySem.W.readsIn K S (.type "type") = true) (ga : PySem.W.specialIn K (.ref S) "__getattribute__" = some (some (.builtin "type.__getattribute__")))
    (vV : PySem.W.findCls K (.ref S) (.type "type") "__init__" = some (.val (.builtin "ValueError.__init__"))) : ErrI P w K mg base x f C := by
  have T : OexC K C := ⟨⟨nm, q, N, bs, _, sn, sub, ab, col, dd, k0, k1, k2, k3, k5, xL, rfl⟩, sa, exC, tyC, kC⟩
  exact ⟨g.ref, T, fI, _, iC, tI, Binds.all binds, init_ok S0 lk hcd (body S gS.ref ⟨rd, ga⟩ vV) fun a y H Q ea k => run a y H Q T no ea k⟩
theorem excC_mk {h : Heap} (X : K.In h) (G : h.Ns mainGlobals mg) {x : Str} {C : Addr} (a : PySem.W.nsIn K mainGlobals x = some (some (.ref C))) (k : PySem.W.keepIn K (.ref C) = true)
    (e : PySem.W.excIn K C [.type "ValueError", .type "Exception", .type "BaseException", .type "object"] "ValueError.__new__" = true) (r : PySem.W.subIn K (.ref C) (.type "BaseException") = some true)
    (t : PySem.W.typeIn K (.ref C) = some (.type "type")) (i : PySem.W.isClsIn K C = true) (s : PySem.W.subIn K (.ref C) (.ref C) = some true) : ExcC K mg x C := ⟨PySem.W.mg_of X G a, k, e, r, t, exm_own r i t s⟩
theorem cls_mk {h : Heap} (X : K.In h) (G : h.Ns mainGlobals mg) {x : Str} {C : Addr} (a : PySem.W.nsIn K mainGlobals x = some (some (.ref C))) : GV mg x (.ref C) := ⟨_, PySem.W.mg_of X G a, rfl⟩
end
end Hz

namespace Hz
open PySem PySem.Spec PyProof.Rows L2 RZ
def topS (i : Nat) : Stmt := PySem.Challenge.pw_stickyheads_k43_errors_of_folds.main.body.getD i (.Pass ⟨0, 0, 0, 0⟩)
abbrev s_is_integer : Stmt := topS 22
theorem sc_is_integer : FnScope ["value"] ["value"] (defScope s_is_integer) := ⟨rfl, rfl, rfl, by decide +kernel, rfl, by decide +kernel, by decide +kernel⟩
abbrev s_is_outline : Stmt := topS 23
theorem sc_is_outline : FnScope ["value", "before", "depth"] ["value"] (defScope s_is_outline) := ⟨rfl, rfl, rfl, by decide +kernel, rfl, by decide +kernel, by decide +kernel⟩
abbrev s_check_outline : Stmt := topS 24
theorem sc_check_outline : FnScope ["outline"] ["outline"] (defScope s_check_outline) := ⟨rfl, rfl, rfl, by decide +kernel, rfl, by decide +kernel, by decide +kernel⟩
abbrev s_check_line : Stmt := topS 25
theorem sc_check_line : FnScope ["outline", "line"] ["outline", "line"] (defScope s_check_line) := ⟨rfl, rfl, rfl, by decide +kernel, rfl, by decide +kernel, by decide +kernel⟩
abbrev s_last_of_section : Stmt := topS 26
theorem sc_last_of_section : FnScope ["outline", "line", "last"] ["outline", "line"] (defScope s_last_of_section) := ⟨rfl, rfl, rfl, by decide +kernel, rfl, by decide +kernel, by decide +kernel⟩
abbrev s_check_height : Stmt := topS 29
theorem sc_check_height : FnScope ["height"] ["height"] (defScope s_check_height) := ⟨rfl, rfl, rfl, by decide +kernel, rfl, by decide +kernel, by decide +kernel⟩
abbrev s_check_folds : Stmt := topS 31
theorem sc_check_folds : FnScope ["outline", "folds", "is_valid", "line", "following"] ["outline", "folds"] (defScope s_check_folds) := ⟨rfl, rfl, rfl, by decide +kernel, rfl, by decide +kernel, by decide +kernel⟩
abbrev s_left_by : Stmt := topS 32
theorem sc_left_by : FnScope ["outline", "folds", "is_folded", "line", "found"] ["outline", "folds"] (defScope s_left_by) := ⟨rfl, rfl, rfl, by decide +kernel, rfl, by decide +kernel, by decide +kernel⟩
abbrev s_lines_left : Stmt := topS 33
theorem sc_lines_left : FnScope ["outline", "folds"] ["outline", "folds"] (defScope s_lines_left) := ⟨rfl, rfl, rfl, by decide +kernel, rfl, by decide +kernel, by decide +kernel⟩
abbrev s_folded_outline : Stmt := topS 34
theorem sc_folded_outline : FnScope ["outline", "folds", "line"] ["outline", "folds"] (defScope s_folded_outline) := ⟨rfl, rfl, rfl, by decide +kernel, rfl, by decide +kernel, by decide +kernel⟩
abbrev s_sections_between : Stmt := topS 35
theorem sc_sections_between : FnScope ["outline", "first", "last", "found", "line", "end"] ["outline", "first", "last"] (defScope s_sections_between) := ⟨rfl, rfl, rfl, by decide +kernel, rfl, by decide +kernel, by decide +kernel⟩
abbrev s_folds_to_show : Stmt := topS 36
theorem sc_folds_to_show : FnScope ["outline", "height", "line", "other", "first", "last", "missing", "folds", "hidden", "folded"] ["outline", "height", "line", "other"] (defScope s_folds_to_show) := ⟨rfl, rfl, rfl, by decide +kernel, rfl, by decide +kernel, by decide +kernel⟩
abbrev s_fewest_folds : Stmt := topS 37
theorem sc_fewest_folds : FnScope ["outline", "height", "line", "other", "folds"] ["outline", "height", "line", "other"] (defScope s_fewest_folds) := ⟨rfl, rfl, rfl, by decide +kernel, rfl, by decide +kernel, by decide +kernel⟩
abbrev s_law_bag : Stmt := topS 39
theorem sc_law_bag : FnScope ["cell", "turn", "size"] ["cell", "turn"] (defScope s_law_bag) := ⟨rfl, rfl, rfl, by decide +kernel, rfl, by decide +kernel, by decide +kernel⟩
abbrev s_law_draw : Stmt := topS 40
theorem sc_law_draw : FnScope ["bag", "many", "found", "mixed"] ["bag", "many"] (defScope s_law_draw) := ⟨rfl, rfl, rfl, by decide +kernel, rfl, by decide +kernel, by decide +kernel⟩
abbrev s_law_cells : Stmt := topS 41
theorem sc_law_cells : FnScope ["script"] ["script"] (defScope s_law_cells) := ⟨rfl, rfl, rfl, by decide +kernel, rfl, by decide +kernel, by decide +kernel⟩
abbrev s_law_rising : Stmt := topS 42
theorem sc_law_rising : FnScope ["bag", "most", "style", "many", "found", "turn", "top", "some"] ["bag", "most"] (defScope s_law_rising) := ⟨rfl, rfl, rfl, by decide +kernel, rfl, by decide +kernel, by decide +kernel⟩
abbrev s_law_sized : Stmt := topS 43
theorem sc_law_sized : FnScope ["script", "bag", "small", "great"] ["script", "bag", "small", "great"] (defScope s_law_sized) := ⟨rfl, rfl, rfl, by decide +kernel, rfl, by decide +kernel, by decide +kernel⟩
abbrev s_law_places : Stmt := topS 44
theorem sc_law_places : FnScope ["bag", "depths", "odds", "spot"] ["bag", "depths", "odds"] (defScope s_law_places) := ⟨rfl, rfl, rfl, by decide +kernel, rfl, by decide +kernel, by decide +kernel⟩
abbrev s_law_no_outline : Stmt := topS 45
theorem sc_law_no_outline : FnScope ["bag", "depths", "at", "odd", "some"] ["bag", "depths"] (defScope s_law_no_outline) := ⟨rfl, rfl, rfl, by decide +kernel, rfl, by decide +kernel, by decide +kernel⟩
abbrev s_law_no_folds : Stmt := topS 46
theorem sc_law_no_folds : FnScope ["bag", "depths", "marks", "at", "odd", "twin", "double", "some"] ["bag", "depths", "marks"] (defScope s_law_no_folds) := ⟨rfl, rfl, rfl, by decide +kernel, rfl, by decide +kernel, by decide +kernel⟩
abbrev s_law_kind : Stmt := topS 47
theorem sc_law_kind : FnScope ["caught", "odd", "some"] ["caught"] (defScope s_law_kind) := ⟨rfl, rfl, rfl, by decide +kernel, rfl, by decide +kernel, by decide +kernel⟩
abbrev s_law_error : Stmt := topS 48
theorem sc_law_error : FnScope ["door", "rows", "caught", "e"] ["door", "rows"] (defScope s_law_error) := ⟨rfl, rfl, rfl, by decide +kernel, rfl, by decide +kernel, by decide +kernel⟩
abbrev s_law_right : Stmt := topS 49
theorem sc_law_right : FnScope ["script", "bag", "depths", "marks", "good", "turn", "far", "bad", "is_bad", "spot", "rows", "one", "two", "so", "kept", "words", "door", "order", "due"] ["script", "bag"] (defScope s_law_right) := ⟨rfl, rfl, rfl, by decide +kernel, rfl, by decide +kernel, by decide +kernel⟩
abbrev s_law : Stmt := topS 50
theorem sc_law : FnScope ["script", "k", "cell"] ["script"] (defScope s_law) := ⟨rfl, rfl, rfl, by decide +kernel, rfl, by decide +kernel, by decide +kernel⟩
/-! the steps -/
local macro_rules | `(tactic| walk_at "pk") => `(tactic| first | exact Pick.head | (apply Pick.tail; walk_at "pk") | (apply Pick.app; walk_at "pk") | assumption)
local macro_rules | `(tactic| walk_at "mb") => `(tactic| first | assumption | exact List.mem_cons_self | (apply List.mem_cons_of_mem; walk_at "mb") | (apply List.mem_append_right; walk_at "mb") | (exact Pick.mem (by assumption)))
local macro_rules | `(tactic| walk_at "sa") => `(tactic| first | exact SetAt.zero | (apply SetAt.succ; walk_at "sa"))
local macro_rules | `(tactic| walk_at "ga") => `(tactic| first | exact GetAt.zero | (apply GetAt.succ; walk_at "ga"))
local macro_rules | `(tactic| walk_at "sb") => `(tactic| first | exact Sub.refl | ((fail_if_success apply Sub.take); first | (apply Sub.keep; walk_at "sb") | (apply Sub.drop; walk_at "sb") | (apply Sub.app; walk_at "sb")) | (apply Sub.take; (walk_at "pk"); (walk_at "sb")))
local macro_rules | `(tactic| walk_at "pre") => `(tactic| first | exact Pre.nil | (apply Pre.cons; walk_at "pre") | (apply Pre.app; walk_at "pre"))
local macro_rules | `(tactic| walk_at "ty") => `(tactic| first | assumption | exact HasTy.non | exact HasTy.bl _ | exact HasTy.int _ | exact HasTy.str _ | (apply HasTy.lst; walk_at "mb") | (apply HasTy.tup; walk_at "mb") | (apply HasTy.dct; walk_at "mb"))
local macro_rules | `(tactic| walk_at "hx") => `(tactic| first
  | ((with_reducible refine' t_is ?ty ?mem ?_); (case ty => walk_at "ty"); (case mem => decide)))
local macro_rules | `(tactic| walk_at "sz") => `(tactic| first | (with_unfolding_all decide) | (rw [sizeLine_eq]; omega) | (simp only [sizeLine_eq, List.length_append, List.length_map, List.length_cons, List.length_nil, List.length_replicate, List.length_take, List.length_drop, List.length_reverse]; omega))
local macro_rules | `(tactic| walk_at "hz") => `(tactic| first
  | (with_reducible refine t_seq ?_)
  | (with_reducible refine t_asg ?_)
  | (with_reducible refine t_whBT ?_) | (with_reducible refine t_whBF ?_) | (with_reducible refine t_nxP ?_) | (with_reducible refine t_nxW ?_) | (with_reducible refine t_ctP ?_) | (with_reducible refine t_ctW ?_)
  | ((with_reducible refine' t_varA ?ga ?_); (case ga => walk_at "ga"))
  | (with_reducible refine t_c ?_)
  | ((with_reducible refine' t_name ?sa ?_); (case sa => walk_at "sa"))
  | (with_reducible refine t_op ?_)
  | (with_reducible refine t_rI0 ?_)
  | (with_reducible refine t_rU ?_)
  | (with_reducible refine t_eqI ?_)
  | (with_reducible refine t_neI ?_)
  | (with_reducible refine t_cons ?_)
  | (with_reducible refine t_nil ?_)
  | ((with_reducible refine t_dnewK ?_); intro)
  | (with_reducible refine t_callS ?_) | (with_reducible refine t_callGK ?_)
  | (with_reducible refine t_CB ?_)
  | (with_reducible refine t_if ?_)
  | (with_reducible refine t_test ?_)
  | (with_reducible refine t_bl ?_)
  | (with_reducible refine t_iteT ?_)
  | (with_reducible refine t_iteF ?_)
  | (with_reducible refine t_lst ?_)
  | (with_reducible refine t_tup ?_)
  | ((with_reducible refine t_newL ?sz ?_); (case sz => walk_at "sz"); intro)
  | ((with_reducible refine t_newT ?sz ?_); (case sz => walk_at "sz"); intro)
  | (with_reducible refine t_un ?_)
  | (with_reducible refine t_B ?_)
  | (with_reducible refine t_and ?_)
  | (with_reducible refine t_or ?_)
  | (with_reducible refine t_not ?_)
  | (with_reducible refine t_andV ?_)
  | (with_reducible refine t_orV ?_)
  | (with_reducible refine t_notV ?_)
  | (with_reducible refine t_ifE ?_)
  | (with_reducible refine t_chain ?_)
  | (with_reducible refine t_ret ?_)
  | (with_reducible refine t_retN ?_)
  | (with_reducible refine t_drop ?_)
  | (with_reducible refine t_for ?_)
  | (with_reducible refine t_lc ?_)
  | (with_reducible refine t_next ?_)
  | (with_reducible refine t_BM ?_)
  | (with_reducible refine t_BM0 ?_)
  | ((with_reducible refine' t_tyL ?pk ?_); (case pk => walk_at "pk"))
  | (with_reducible refine t_tyS ?_)
  | ((with_reducible refine' t_ixI ?pk ?sd ?sd2 ?_); (case pk => walk_at "pk"); (case sd => omega); (case sd2 => omega))
  | ((with_reducible refine' t_ixL ?pk ?at_ ?_); (case pk => walk_at "pk"); (case at_ => walk_at "at"))
  | ((with_reducible refine' t_ixT ?pk ?at_ ?_); (case pk => walk_at "pk"); (case at_ => walk_at "at"))
  | ((with_reducible refine' t_appI ?pk ?sz ?_); (case pk => walk_at "pk"); (case sz => walk_at "sz"))
  | ((with_reducible refine' t_append ?pk ?sz ?_); (case pk => walk_at "pk"); (case sz => walk_at "sz"))
  | ((with_reducible refine' t_reverse ?pk ?_); (case pk => walk_at "pk"))
  | ((with_reducible refine' t_extend ?pk ?pk2 ?sz ?_); (case pk => walk_at "pk"); (case pk2 => walk_at "pk"); (case sz => walk_at "sz"))
  | (with_reducible refine t_slice ?_)
  | (with_reducible refine t_noPart ?_)
  | (with_reducible refine t_part ?_)
  | (with_reducible refine t_int ?_)
  | ((with_reducible refine' t_slI ?pk ?_); (case pk => walk_at "pk"); intro)
  | ((with_reducible refine' t_slL ?pk ?_); (case pk => walk_at "pk"); intro)
  | ((with_reducible refine' t_catI ?pk ?pk2 ?sz ?_); (case pk => walk_at "pk"); (case pk2 => walk_at "pk"); (case sz => walk_at "sz"); intro)
  | ((with_reducible refine' t_cat ?pk ?pk2 ?sz ?_); (case pk => walk_at "pk"); (case pk2 => walk_at "pk"); (case sz => walk_at "sz"); intro)
  | ((with_reducible refine' t_augA ?ga ?_); (case ga => walk_at "ga"))
  | (with_reducible refine t_ipI ?_)
  | (with_reducible refine t_par ?_)
  | (with_reducible refine t_two ?_)
  | (with_reducible refine t_sub ?_) | (with_reducible refine t_gSl ?_)
  | ((with_reducible refine' t_setAll ?pk ?pk2 ?sz ?_); (case pk => walk_at "pk"); (case pk2 => walk_at "pk"); (case sz => walk_at "sz"))
  | ((with_reducible refine' t_tupG ?pk ?n ?_); (case pk => walk_at "pk"); (case n => rfl))
  | ((with_reducible refine' t_lstG ?pk ?n ?_); (case pk => walk_at "pk"); (case n => rfl))
  | (with_reducible refine t_consG ?_)
  | (with_reducible refine t_nilG ?_)
  | (with_reducible refine t_isN ?_)
  | (with_reducible refine t_notN ?_)
  | (with_reducible refine t_eqB ?_)
  | (with_reducible refine t_eqS ?_)
  | (with_reducible refine t_neB ?_)
  | (with_reducible refine t_neS ?_)
  | (with_reducible refine t_iL ?_) | (with_reducible refine t_iT ?_) | (with_reducible refine t_iR1 ?_) | (with_reducible refine t_iR2 ?_) | (with_reducible refine t_iR3 ?_)
  | (with_reducible refine t_iZA ?_) | (with_reducible refine t_iE ?_) | (with_reducible refine t_iZ ?_) | (with_reducible refine t_iS ?_)
  | ((with_reducible refine' t_itL ?pk ?_); (case pk => walk_at "pk"))
  | ((with_reducible refine' t_itT ?pk ?_); (case pk => walk_at "pk"))
  | ((with_reducible refine' t_itE ?pk ?_); (case pk => walk_at "pk"))
  | ((with_reducible refine' t_itZ ?pk ?pk2 ?_); (case pk => walk_at "pk"); (case pk2 => walk_at "pk"))
  | ((with_reducible refine' t_itZL ?pk ?pk2 ?_); (case pk => walk_at "pk"); (case pk2 => walk_at "pk"))
  | (with_reducible refine t_itS ?_)
  | ((with_reducible refine t_wiped ?w ?_); (case w => rfl))
  | (with_reducible refine t_yes ?_)
  | ((with_reducible refine' t_rep ?pk ?sd ?sd2 ?sz ?_); (case pk => walk_at "pk"); (case sd => decide); (case sd2 => decide); (case sz => walk_at "sz"); intro)
  | ((with_reducible refine' t_lenI ?pk ?_); (case pk => walk_at "pk"))
  | ((with_reducible refine' t_lenL ?pk ?_); (case pk => walk_at "pk"))
  | ((with_reducible refine' t_lenT ?pk ?_); (case pk => walk_at "pk"))
  | ((with_reducible refine t_rI ?sd ?_); (case sd => walk_at "sd"))
  | (with_reducible refine t_max2 ?_) | (with_reducible refine t_min2 ?_)
  | (with_reducible refine t_intI ?_) | (with_reducible refine t_intB ?_)
  | ((with_reducible refine t_itR1 ?sd ?sd2 ?_); (case sd => walk_at "sd"); (case sd2 => walk_at "sd"))
  | ((with_reducible refine t_itR2 ?sd ?_); (case sd => walk_at "sd"))
  | (with_reducible refine t_lstRg ?_) | (with_reducible refine t_rg1 ?_) | (with_reducible refine t_rg2 ?_) | (with_reducible refine t_int2 ?_)
  | ((with_reducible refine t_rgI ?sd ?_); (case sd => walk_at "sd"); intro)
  | ((with_reducible refine t_newRg ?sd ?_); (case sd => walk_at "sd"); intro)
  | (with_reducible refine t_revL ?_)
  | ((with_reducible refine' t_revI ?pk ?_); (case pk => walk_at "pk"); intro)
  | ((with_reducible refine' t_newRev ?pk ?_); (case pk => walk_at "pk"); intro)
  | (with_reducible refine t_isB ?_) | (with_reducible refine t_notB ?_)
  | ((with_reducible refine' t_listL ?pk ?_); (case pk => walk_at "pk"); intro)
  | ((with_reducible refine' t_listT ?pk ?_); (case pk => walk_at "pk"); intro)
  | ((with_reducible refine' t_tupleL ?pk ?_); (case pk => walk_at "pk"); intro)
  | ((with_reducible refine' t_inI ?pk ?_); (case pk => walk_at "pk"))
  | ((with_reducible refine' t_notInI ?pk ?_); (case pk => walk_at "pk"))
  | ((with_reducible refine t_ifT ?h ?_); (case h => first | decide | rfl))
  | ((with_reducible refine t_ifF ?h ?_); (case h => first | decide | rfl))
  | (with_reducible refine t_sortSet ?_) | (with_reducible refine t_lenSetV ?_)
  | (with_reducible refine t_ifR ?_) | (with_reducible refine t_ifNR ?_)
  | ((with_reducible refine t_ifDT ?h ?_); (case h => omega)) | ((with_reducible refine t_ifDF ?h ?_); (case h => omega))
  | ((with_reducible refine t_ifNT ?h ?_); (case h => omega)) | ((with_reducible refine t_ifNF ?h ?_); (case h => omega)))
local macro_rules | `(tactic| walk_at "sd") => `(tactic| first | omega | assumption | (exact .inl (by omega)) | (exact .inr (.inl (by omega))) | (refine And.intro ?_ ?_ <;> omega) | decide | (exact ⟨by omega, by omega, by omega, by omega⟩) | (exact RgOk.of_le (by omega) (by omega) (by omega) (by omega)))
local macro_rules | `(tactic| walk_at "at") => `(tactic| first | rfl | exact atI_nat (by assumption) | exact atI_nat rfl)
local macro_rules | `(tactic| walk_at "hz") => `(tactic| first
  | (with_reducible refine t_dc ?_) | (with_reducible refine t_din ?_) | (with_reducible refine t_dnin ?_) | (with_reducible refine t_dix ?_) | (with_reducible refine t_dg1 ?_) | (with_reducible refine t_dput ?_)
  | ((with_reducible refine' t_isDk ?pk ?_); (case pk => walk_at "pk"))
  | ((with_reducible refine' t_dinK ?pk ?_); (case pk => walk_at "pk"))
  | ((with_reducible refine' t_dninK ?pk ?_); (case pk => walk_at "pk"))
  | ((with_reducible refine' t_dgetK ?pk ?_); (case pk => walk_at "pk"))
  | ((with_reducible refine' t_dputK ?pk ?sz ?_); (case pk => walk_at "pk"); (case sz => walk_at "sz"))
  | ((with_reducible refine t_dnewT ?_); intro))
local macro_rules | `(tactic| walk_at "hz") => `(tactic| first
  | (with_reducible refine t_iZ3 ?_)
  | ((with_reducible refine' t_itZ3 ?pk ?pk2 ?pk3 ?_); (case pk => walk_at "pk"); (case pk2 => walk_at "pk"); (case pk3 => walk_at "pk")))
local macro_rules | `(tactic| walk_at "er") => `(tactic| first | assumption | (refine' Er.two ?m1 ?m2; (case m1 => walk_at "mb"); (case m2 => walk_at "mb")) | (refine' Er.one ?m1; (case m1 => walk_at "mb")))
local macro_rules | `(tactic| walk_at "ka") => `(tactic| first
  | exact kitAny_nil
  | (refine' kitAny_cons ?e ?f ?g; (case e => with_reducible assumption); (case g => exact fun z => nomatch z); (case f => intro _; walk_at "ka"))
  | (refine' kitAny_cons ?e ?f ?g; (case e => with_reducible assumption); (case f => exact fun z => nomatch z); (case g => exact fun _ => rfl)))
local macro_rules | `(tactic| walk_at "hz") => `(tactic| first
  | ((with_reducible refine' t_isE ?er ?T ?e ?_); (case er => walk_at "er"); (case T => assumption); (case e => with_reducible assumption))
  | ((with_reducible refine' t_isEB ?er ?T ?e ?_); (case er => walk_at "er"); (case T => assumption); (case e => with_reducible assumption))
  | ((with_reducible refine' t_isET ?er ?T ?pk ?c ?e ?_); (case er => walk_at "er"); (case T => assumption); (case pk => walk_at "pk"); (case c => rfl); (case e => simp only [List.map, clsOf]; walk_at "ka"))
  | (with_reducible refine t_exA0 ?_)
  | ((with_reducible refine' t_exA ?pk ?pk2 ?T ?no ?lk ?_); (case pk => walk_at "pk"); (case pk2 => walk_at "pk"); (case T => assumption); (case no => with_reducible assumption); (case lk => rfl))
  | (with_reducible refine t_rz ?_) | (with_reducible refine t_err ?_)
  | ((with_reducible refine t_rErr ?_); intro)
  | ((with_reducible refine t_reprInt ?sd ?sd2 ?_); (case sd => omega); (case sd2 => omega))
  | ((with_reducible refine t_strI ?h ?_); (case h => exact str_ok (by omega) (by omega)))
  | ((with_reducible refine' t_gone ?w ?_); (case w => rfl)) | (with_reducible refine t_goneR ?_)
  | (with_reducible refine t_callV ?_))
section
variable {P : Program} {w : World} {K : PySem.W.Frag} {mg : Str → Option Value} {base : Heap}
/-! ### is_integer, is_outline, check_outline -/
def isInt : V → Bool
  | .int _ => true
  | _ => false
def chainV : Int → List V → Bool
  | _, [] => true
  | b, .int d :: r => decide (0 ≤ d) && decide (d ≤ b + 1) && chainV d r
  | _, _ :: _ => false
/-- the list is an outline -/
def outV (xs : List V) : Bool := decide (1 ≤ xs.length) && decide (xs.length ≤ 200) && chainV (-1) xs
def sp_is_integer : Sp := fun vs H Q _ => ∃ (x : V) (T : String) (L : Lg), vs = [x] ∧ Led H L ∧ HasTy L x T ∧ Tr L (fun H => Q (.bl (isInt x)) H)
theorem use_is_integer {L : Lg} {Q : VK} {E : XK} {x : V} {T : String} (h : HasTy L x T) (k : Tr L fun H => Q (.bl (isInt x)) H) : Tr L fun H => sp_is_integer [x] H Q E := fun H l => ⟨x, T, L, rfl, l, h, k⟩
theorem isInt_isB {L : Lg} {x : V} {T : String} (h : HasTy L x T) : (isB T "int" && !isB T "bool") = isInt x := by cases h <;> rfl
theorem ok_is_integer (D : Df K mg "is_integer" s_is_integer) (B : Blt mg) : Ok P w K mg base CX0 1 "is_integer" ["value"] sp_is_integer := by
  obtain ⟨f, fd, hm, F⟩ := D
  refine ⟨f, fd, hm, F.kp, F.binds (fun _ _ _ _ _ _ us hl => match us, hl with | [_], _ => rfl), FunOkG F sc_is_integer (fun vs H Q E h => ?_) (fun cdv A outer s H vs Q E hr h => ?_), F.lk⟩
  · obtain ⟨x, T, L, rfl, _⟩ := h; rfl
  · obtain ⟨x, T, L, rfl, l, ht, q⟩ := h
    refine ⟨_, PSs.nox (pss_one (ps_ret (pe_and (pe_callB c_is rfl B.isinstance_ boot_isinstance (pa_cons (pv 0) (pa_cons (pe_ty B.int_ boot_int) pa_nil))) (pe_one (pe_not (pe_callB c_is rfl B.isinstance_ boot_isinstance (pa_cons (pv 0) (pa_cons (pe_ty B.bool_ boot_bool) pa_nil)))))))), ?_⟩
    rw [show L2.start ["value"] [x] = [some x] from rfl]
    refine Tr.of (L := L) ?_ l
    repeat walk_at "hz"
    refine t_is ht (by decide) ?_
    repeat walk_at "hz"
    have e := isInt_isB ht
    refine t_ite (fun h1 => ?_) fun h1 => ?_
    · repeat walk_at "hz"
      refine t_is ht (by decide) ?_
      repeat walk_at "hz"
      rw [h1, Bool.true_and] at e
      rw [e]
      exact q
    · repeat walk_at "hz"
      rw [h1, Bool.false_and] at e
      rw [e]
      exact q
/-- what is_outline answers -/
def OutIs (L : Lg) (x : V) (b : Bool) : Prop := (∃ a xs, x = .ref a ∧ (a, .lst xs) ∈ L ∧ (∀ y ∈ xs, ∃ T, HasTy L y T) ∧ b = outV xs) ∨ (∃ T, HasTy L x T ∧ T ≠ "list" ∧ b = false)
def sp_is_outline : Sp := fun vs H Q _ => ∃ (x : V) (b : Bool) (L : Lg), vs = [x] ∧ Led H L ∧ OutIs L x b ∧ Tr L (fun H => Q (.bl b) H)
theorem use_is_outline {L : Lg} {Q : VK} {E : XK} {x : V} {b : Bool} (h : OutIs L x b) (k : Tr L fun H => Q (.bl b) H) : Tr L fun H => sp_is_outline [x] H Q E := fun H l => ⟨x, b, L, rfl, l, h, k⟩
theorem chainV_not {b : Int} {v : V} {r : List V} (h : isInt v = false) : chainV b (v :: r) = false := by
  cases v <;> first | rfl | cases h
theorem drop_cons {α : Type} {xs : List α} {i : Nat} {v : α} (h : xs[i]? = some v) : xs.drop i = v :: xs.drop (i + 1) := by
  obtain ⟨h1, h2⟩ := List.getElem?_eq_some_iff.mp h
  rw [List.drop_eq_getElem_cons h1, h2]
theorem isB_list {T : String} (h : T ∈ tyNames) (n : T ≠ "list") : isB T "list" = false := by
  unfold isB
  simp [n]
theorem ok_is_outline (D : Df K mg "is_outline" s_is_outline) (B : Blt mg) (g_MAX_LINES : GV mg "MAX_LINES" (.int 200)) (k_is_integer : Ok P w K mg base CX0 1 "is_integer" ["value"] sp_is_integer) :
    Ok P w K mg base CX0 2 "is_outline" ["value"] sp_is_outline := by
  obtain ⟨f, fd, hm, F⟩ := D
  refine ⟨f, fd, hm, F.kp, F.binds (fun _ _ _ _ _ _ us hl => match us, hl with | [_], _ => rfl), FunOkG F sc_is_outline (fun vs H Q E h => ?_) (fun cdv A outer s H vs Q E hr h => ?_), F.lk⟩
  · obtain ⟨x, T, L, rfl, _⟩ := h; rfl
  · obtain ⟨x, b, L, rfl, l, ho, q⟩ := h
    refine ⟨_, PSs.nox (pss_cons (ps_if (PW.pt (pw_or (pt_not (pt_val (pe_callB c_is rfl B.isinstance_ boot_isinstance (pa_cons (pv 0) (pa_cons (pe_ty B.list_ boot_list) pa_nil))))) (pw_or1 (pt_not (pt_chain op_le op_le pe_int (pe_callB c_len rfl B.len_ boot_len (pa_cons (pv 0) pa_nil)) (pe_gv g_MAX_LINES)))))) (pss_one (ps_ret pe_bl))
        pss_nil)
      (pss_cons (ps_set (i := 1) sc_is_outline.nd rfl (.inl rfl) (pe_un un_neg pe_int))
      (pss_cons (ps_for PassesOwn.never rfl (pi_list (pv 0)) (pg_name (i := 2) sc_is_outline.nd rfl (.inl rfl))
        (pss_cons (ps_if (PW.pt (pw_or (pt_not (pt_val (pe_callG k_is_integer (hr.mono (by omega)) pas0 (pa_cons (pv 2) pa_nil)))) (pw_or1 (pt_not (pt_chain op_le op_le pe_int (pv 2) (pe_op op_add (pv 1) pe_int)))))) (pss_one (ps_ret pe_bl))
        pss_nil)
      (pss_one (ps_set (i := 1) sc_is_outline.nd rfl (.inl rfl) (pv 2)))))
      (pss_one (ps_ret pe_bl))))), ?_⟩
    rw [show L2.start ["value", "before", "depth"] [x] = [some x, none, none] from rfl]
    refine Tr.of (L := L) ?_ l
    repeat walk_at "hz"
    rcases ho with ⟨a, xs, rfl, hm, hty, rfl⟩ | ⟨T, ht, hn, rfl⟩
    · refine t_is (.lst hm) (by decide) ?_
      obtain ⟨R, hp⟩ := Pick.of_mem hm
      repeat walk_at "hz"
      refine t_iteD (fun h1 => ?_) fun h1 => ?_
      · repeat walk_at "hz"
        refine t_iteND (fun h2 => ?_) fun h2 => ?_
        · repeat walk_at "hz"
          rw [show outV xs = false by unfold outV; rw [show decide (xs.length ≤ 200) = false from decide_eq_false (by omega), Bool.and_false, Bool.false_and]] at q
          exact q
        · repeat walk_at "hz"
          refine t_forK wk_list (fun i y => [some (.ref a), some (.int y.1), y.2]) (fun _ _ => L) (fun i y => chainV (-1) xs = chainV y.1 (xs.drop i)) ⟨((-1 : Int), none), rfl, rfl, .refl⟩ (fun _ _ _ => ⟨R, hp⟩) ?_ ?_
          · rintro i ⟨b, d⟩ v L' hi hc ⟨hv, rfl⟩
            dsimp only at hc ⊢
            rw [drop_cons hv] at hc
            obtain ⟨T, ht⟩ := hty v (List.mem_of_getElem? hv)
            show Tr L _
            repeat walk_at "hz"
            refine use_is_integer ht ?_
            repeat walk_at "hz"
            refine t_ite (fun h3 => ?_) fun h3 => ?_
            · repeat walk_at "hz"
              rw [show outV xs = false by unfold outV; rw [hc, chainV_not (by simpa using h3), Bool.and_false]] at q
              exact q
            · have h4 : isInt v = true := by simpa using h3
              obtain ⟨m, rfl⟩ : ∃ m, v = .int m := by
                cases v <;> first | exact ⟨_, rfl⟩ | cases h4
              repeat walk_at "hz"
              refine t_iteD (fun h5 => ?_) fun h5 => ?_
              · repeat walk_at "hz"
                refine t_iteND (fun h6 => ?_) fun h6 => ?_
                · repeat walk_at "hz"
                  rw [show outV xs = false by unfold outV; rw [hc, chainV, decide_eq_false h6, Bool.and_false, Bool.false_and, Bool.and_false]] at q
                  exact q
                · repeat walk_at "hz"
                  refine t_pst (m, some (V.int m)) ?_ (by rfl) (by walk_at "sb")
                  rw [hc, chainV, decide_eq_true h5, decide_eq_true h6]; rfl
              · repeat walk_at "hz"
                rw [show outV xs = false by unfold outV; rw [hc, chainV, decide_eq_false h5, Bool.false_and, Bool.false_and, Bool.and_false]] at q
                exact q
          · rintro ⟨b, d⟩ hc
            repeat walk_at "hz"
            rw [List.drop_length] at hc
            rw [show outV xs = true by unfold outV; rw [hc, decide_eq_true (by omega), decide_eq_true (by omega)]; rfl] at q
            exact q
      · repeat walk_at "hz"
        rw [show outV xs = false by unfold outV; rw [show decide (1 ≤ xs.length) = false from decide_eq_false (by omega), Bool.false_and, Bool.false_and]] at q
        exact q
    · refine t_is ht (by decide) ?_
      rw [isB_list ht.name hn]
      repeat walk_at "hz"
      exact q
theorem chainV_ints : ∀ (b : Int) (ns : List Int), chainV b (ns.map V.int) = true ↔ chainI b ns
  | _, [] => by simp [chainV, chainI]
  | b, d :: r => by
    show (decide (0 ≤ d) && decide (d ≤ b + 1) && chainV d (r.map V.int)) = true ↔ (0 ≤ d ∧ d ≤ b + 1 ∧ chainI d r)
    rw [Bool.and_eq_true, Bool.and_eq_true, chainV_ints d r, decide_eq_true_eq, decide_eq_true_eq, and_assoc]
/-- the depths of an outline -/
def Outline (ns : List Int) : Prop := outV (ns.map V.int) = true
theorem outline_iff {ns : List Int} : Outline ns ↔ 1 ≤ ns.length ∧ ns.length ≤ 200 ∧ chainI (-1) ns := by
  unfold Outline outV
  rw [List.length_map, Bool.and_eq_true, Bool.and_eq_true, chainV_ints, decide_eq_true_eq, decide_eq_true_eq, and_assoc]
theorem Outline.chain {ns : List Int} (h : Outline ns) : chainI (-1) ns := (outline_iff.mp h).2.2
theorem Outline.len {ns : List Int} (h : Outline ns) : 1 ≤ ns.length ∧ ns.length ≤ 200 := ⟨(outline_iff.mp h).1, (outline_iff.mp h).2.1⟩
theorem Outline.bound {ns : List Int} (h : Outline ns) {i : Nat} {d : Int} (e : ns[i]? = some d) : 0 ≤ d ∧ d ≤ i := by
  have := chainI_bounds _ _ h.chain i d e
  omega
theorem Outline.small {ns : List Int} (h : Outline ns) : ∀ n ∈ ns, n.natAbs < 2 ^ 1000 := fun n hn => by
  obtain ⟨i, e⟩ := List.mem_iff_getElem?.mp hn
  have b := h.bound e
  have l := (List.getElem?_eq_some_iff.mp e).1
  have := h.len.2
  have z : (200 : Nat) < 2 ^ 1000 := by decide
  omega

/-! ### check_outline, raising; stops_of, stops -/
theorem outIs_ints {L : Lg} {a : Addr} {ns : List Int} (hm : (a, .lst (ns.map V.int)) ∈ L) : OutIs L (.ref a) (outV (ns.map V.int)) :=
  .inl ⟨a, _, rfl, hm, fun y hy => by obtain ⟨n, _, rfl⟩ := List.mem_map.mp hy; exact ⟨_, .int n⟩, rfl⟩
def sp_check_outline (C_InvalidOutlineError : Addr) : Sp := fun vs H Q E => ∃ (x : V) (b : Bool) (L : Lg), vs = [x] ∧ Led H (L) ∧ (OutIs L x b) ∧ ((b = true) → (Tr (L) (fun H => Q (.non) H))) ∧ ((b = false) → Tr (L) (fun H => E (.ref C_InvalidOutlineError) none H))
theorem use_check_outline {L : Lg} {Q : VK} {E : XK} {x : V} {b : Bool} (ho : OutIs L x b) (q : (b = true) → (Tr (L) (fun H => Q (.non) H))) (x0 : (b = false) → Tr (L) (fun H => E (.ref C_InvalidOutlineError) none H)) : Tr L fun H => sp_check_outline C_InvalidOutlineError [x] H Q E :=
  fun H l => ⟨x, b, L, rfl, l, ho, q, x0⟩

theorem ok_check_outline {C_InvalidOutlineError : Addr} (D : Df K mg "check_outline" s_check_outline) (B : Blt mg) (X_InvalidOutlineError : ExcC K mg "InvalidOutlineError" C_InvalidOutlineError) (k_is_outline : Ok P w K mg base CX0 2 "is_outline" ["value"] sp_is_outline) : Ok P w K mg base (L2.CX P w) 3 "check_outline" ["outline"] (sp_check_outline C_InvalidOutlineError) := by
  obtain ⟨f, fd, hm, F⟩ := D
  refine ⟨f, fd, hm, F.kp, F.binds (fun _ _ _ _ _ _ us hl => match us, hl with | [_], _ => rfl), FunOkG F sc_check_outline (fun vs H Q E h => ?_) (fun cdv A outer s H vs Q E hr h => ?_), F.lk⟩
  · obtain ⟨_, _, _, rfl, _⟩ := h; rfl
  obtain ⟨x, b, L, rfl, l, ho, q, x0⟩ := h
  refine ⟨_, (pss_one (ps_if (pt_not (pt_val (pe_callG k_is_outline (hr.mono (by omega)) pas0 (pa_cons (pv 0) pa_nil)))) (pss_one (ps_raise rfl (takes_of rfl rfl rfl rfl) (pe_mk X_InvalidOutlineError)))
        pss_nil)), ?_⟩
  rw [show L2.start ["outline"] [x] = [some x] from rfl]
  refine Tr.of ?_ l
  repeat walk_at "hz"
  refine use_is_outline ho ?_
  repeat walk_at "hz"
  cases b with
  | true =>
    refine t_ifF rfl ?_
    repeat walk_at "hz"
    exact q rfl
  | false =>
    refine t_ifT rfl ?_
    repeat walk_at "hz"
    exact x0 rfl
/-- line minus depth -/
def stopsFrom : Int → List Int → List Int
  | _, [] => []
  | k, d :: r => (k - d) :: stopsFrom (k + 1) r
def stopsI (ns : List Int) : List Int := stopsFrom 0 ns
theorem stopsFrom_len : ∀ (k : Int) (ns : List Int), (stopsFrom k ns).length = ns.length
  | _, [] => rfl
  | k, d :: r => by rw [stopsFrom, List.length_cons, List.length_cons, stopsFrom_len]
theorem stopsFrom_get : ∀ (k : Int) (ns : List Int) (i : Nat) (d : Int), ns[i]? = some d → (stopsFrom k ns)[i]? = some (k + i - d)
  | k, d :: r, 0, e, h => by
    cases h
    show some (k - d) = some (k + ((0 : Nat) : Int) - d)
    congr 1; omega
  | k, d :: r, i + 1, e, h => by
    show (stopsFrom (k + 1) r)[i]? = _
    rw [stopsFrom_get (k + 1) r i e (by simpa using h)]
    congr 1; omega
theorem map_get {α β : Type} {f : α → β} {xs : List α} {i : Nat} {y : β} (h : (xs.map f)[i]? = some y) : ∃ x, xs[i]? = some x ∧ y = f x := by
  rw [List.getElem?_map] at h
  cases e : xs[i]? with
  | none => rw [e] at h; cases h
  | some x => rw [e] at h; cases h; exact ⟨x, rfl, rfl⟩
theorem get_map {α β : Type} (f : α → β) {xs : List α} {i : Nat} {x : α} (h : xs[i]? = some x) : (xs.map f)[i]? = some (f x) := by rw [List.getElem?_map, h]; rfl

/-! ### headings, by the ints -/
def hbk (f : Int → Int) : Nat → Int → List Int
  | 0, _ => []
  | k + 1, d => if f (k : Nat) < d then ((k : Nat) : Int) :: hbk f k (f (k : Nat)) else hbk f k d
/-- the last place below k where f is e -/
def lastW (f : Int → Int) (e : Int) : Nat → Int
  | 0 => -1
  | k + 1 => if f (k : Nat) = e then ((k : Nat) : Int) else lastW f e k
structure Stp (f : Int → Int) (n : Nat) : Prop where
  zero : f 0 = 0
  nn : ∀ i : Nat, i < n → 0 ≤ f i
  up : ∀ i : Nat, i + 1 < n → f ((i + 1 : Nat) : Int) ≤ f i + 1
theorem hbk_eq {f : Int → Int} {n : Nat} (S : Stp f n) : ∀ (k : Nat) (d : Int), k ≤ n → 0 ≤ d → (k = 0 → d = 0) → (∀ j : Nat, k = j + 1 → d ≤ f j + 1) →
    hbk f k d = ((List.range d.toNat).map fun e => lastW f (e : Nat) k).reverse
  | 0, d, _, _, h0, _ => by rw [h0 rfl]; rfl
  | k + 1, d, hk, hd, _, h1 => by
    have b := h1 k rfl
    have nn := S.nn k (by omega)
    have up : ∀ j : Nat, k = j + 1 → f k ≤ f j + 1 := fun j e => by subst e; exact S.up j (by omega)
    have z : k = 0 → f k = 0 := fun e => by subst e; exact S.zero
    unfold hbk
    by_cases h : f k < d
    · rw [if_pos h, hbk_eq S k (f k) (by omega) nn z up]
      obtain rfl : d = f k + 1 := by omega
      rw [show (f k + 1).toNat = (f k).toNat + 1 by omega, List.range_succ, List.map_append, List.reverse_append]
      congr 1
      · simp only [List.map_cons, List.map_nil, List.reverse_cons, List.reverse_nil, List.nil_append, List.cons.injEq, and_true]
        unfold lastW
        rw [if_pos (by omega)]
      · congr 1
        refine List.map_congr_left fun e he => ?_
        have := List.mem_range.mp he
        rw [show lastW f e (k + 1) = lastW f e k by rw [lastW, if_neg (by omega)]]
    · rw [if_neg h, hbk_eq S k d (by omega) hd (fun e => by have := z e; omega) fun j e => by have := up j e; omega]
      congr 1
      refine List.map_congr_left fun e he => ?_
      have := List.mem_range.mp he
      rw [show lastW f e (k + 1) = lastW f e k by rw [lastW, if_neg (by omega)]]
theorem hbk_len (f : Int → Int) : ∀ (k : Nat) (d : Int), (hbk f k d).length ≤ k
  | 0, _ => Nat.le_refl 0
  | k + 1, d => by
    unfold hbk
    split
    · have := hbk_len f k (f k)
      rw [List.length_cons]; omega
    · have := hbk_len f k d
      omega
/-- the headings of the line i -/
def hdI (ns : List Int) (i : Int) : List Int := (hbk (atD ns) i.toNat (atD ns i)).reverse
theorem hdI_len (ns : List Int) (i : Int) : (hdI ns i).length ≤ i.toNat := by unfold hdI; rw [List.length_reverse]; exact hbk_len _ _ _
theorem chainI_stp : ∀ (b : Int) (ns : List Int), chainI b ns → ∀ i : Nat, i + 1 < ns.length → atD ns ((i + 1 : Nat) : Int) ≤ atD ns (i : Nat) + 1
  | b, d :: e :: r, h, 0, _ => by
    show e ≤ d + 1
    exact h.2.2.2.1
  | b, d :: r, h, i + 1, hi => by
    have := chainI_stp d r h.2.2 i (by simpa using hi)
    exact this
theorem Outline.at {ns : List Int} (h : Outline ns) {i : Int} (h0 : 0 ≤ i) (h1 : i < ns.length) : 0 ≤ atD ns i ∧ atD ns i ≤ i := by
  have := h.bound (atD_get h0 h1)
  omega
theorem Outline.stp {ns : List Int} (h : Outline ns) : Stp (atD ns) ns.length where
  zero := by have := h.at (i := 0) (by omega) (by have := h.len; omega); omega
  nn := fun i hi => (h.at (i := (i : Nat)) (by omega) (by omega)).1
  up := chainI_stp _ _ h.chain
theorem hdI_eq {ns : List Int} (h : Outline ns) {i : Int} (h0 : 0 ≤ i) (h1 : i < ns.length) : hdI ns i = (List.range (atD ns i).toNat).map fun e => lastW (atD ns) (e : Nat) i.toNat := by
  have a := h.at h0 h1
  have S := h.stp
  unfold hdI
  rw [hbk_eq S i.toNat (atD ns i) (by omega) a.1 (fun e => by omega) fun j e => by
    have := S.up j (by omega)
    rw [← e, Int.toNat_of_nonneg h0] at this
    exact this]
  rw [List.reverse_reverse]
/-! ### the last line of a section -/
structure SecEnd (f : Int → Int) (n : Int) (p e : Int) : Prop where
  lo : p ≤ e
  hi : e < n
  deep : ∀ k, p < k → k ≤ e → f p < f k
  stop : e + 1 < n → f (e + 1) ≤ f p
theorem SecEnd.uniq {f : Int → Int} {n p e e' : Int} (h : SecEnd f n p e) (h' : SecEnd f n p e') : e = e' := by
  have key : ∀ {e e' : Int}, SecEnd f n p e → SecEnd f n p e' → ¬ e < e' := fun {e e'} h h' lt => by
    have a := h.stop (by have := h'.hi; omega)
    have b := h'.deep (e + 1) (by have := h.lo; omega) (by omega)
    omega
  have a := key h h'
  have b := key h' h
  omega
/-- the children between the line and the end of its section -/
def chI (ns : List Int) (p e : Int) : List Int := (rgI (p + 1) (e + 1)).filter fun k => decide (atD ns k = atD ns p + 1)
theorem fl_rg (f : Int → Bool) (a b : Int) : fl (fun i => f (a + (i : Nat))) (fun i => a + (i : Nat)) (b - a).toNat = (rgI a b).filter f := by
  unfold fl rgI
  rw [List.filter_map]
  rfl

/-! ### outlines by data -/
def vD : PyData → V
  | .int i => .int i
  | _ => .non
/-- is it an outline -/
def outD : PyData → Bool
  | .list ds => outV (ds.map vD)
  | _ => false
theorem chainV_vD {L : Lg} : ∀ {xs : List V} {ds : List PyData} (b : Int), DvAll L xs ds → chainV b xs = chainV b (ds.map vD)
  | _, _, _, .nil => rfl
  | _, _, b, .cons h r => by
    cases h with
    | int i => show (decide (0 ≤ i) && decide (i ≤ b + 1) && chainV i _) = (decide (0 ≤ i) && decide (i ≤ b + 1) && chainV i _); rw [chainV_vD i r]
    | _ => rfl
theorem outV_vD {L : Lg} {xs : List V} {ds : List PyData} (h : DvAll L xs ds) : outV xs = outV (ds.map vD) := by
  unfold outV
  rw [chainV_vD (-1) h, List.length_map, h.len]
theorem Dv.outIs {L : Lg} {x : V} {d : PyData} (h : Dv L x d) : OutIs L x (outD d) := by
  cases h with
  | lst m r =>
    refine .inl ⟨_, _, rfl, m, fun y hy => ?_, (outV_vD r).symm⟩
    obtain ⟨i, hi⟩ := List.mem_iff_getElem?.mp hy
    obtain ⟨d, _, hd⟩ := r.get hi
    exact ⟨_, hd.ty⟩
  | non => exact .inr ⟨_, .non, by decide, rfl⟩
  | bl b => exact .inr ⟨_, .bl b, by decide, rfl⟩
  | int i => exact .inr ⟨_, .int i, by decide, rfl⟩
  | str z => exact .inr ⟨_, .str z, by decide, rfl⟩
  | tup m _ => exact .inr ⟨_, .tup m, by decide, rfl⟩
  | dct m => exact .inr ⟨_, .dct m, by decide, rfl⟩
theorem map_vD_ints (ns : List Int) : (ns.map PyData.int).map vD = ns.map V.int := by rw [List.map_map]; rfl
theorem outD_ints (ns : List Int) : outD (.list (ns.map PyData.int)) = outV (ns.map V.int) := by
  show outV ((ns.map PyData.int).map vD) = _
  rw [map_vD_ints]
theorem chainV_app : ∀ (b : Int) (ns : List Int) (ys : List V), chainV b (ns.map V.int ++ ys) = (chainV b (ns.map V.int) && chainV (lastD b ns) ys)
  | b, [], ys => by simp [chainV, lastD]
  | b, d :: r, ys => by
    show (decide (0 ≤ d) && decide (d ≤ b + 1) && chainV d (r.map V.int ++ ys)) = ((decide (0 ≤ d) && decide (d ≤ b + 1) && chainV d (r.map V.int)) && chainV (lastD d r) ys)
    rw [chainV_app d r ys]
    simp [Bool.and_assoc]
theorem not_chain {b : Int} {d : PyData} {ys : List V} (h : ∀ i, d = .int i → i < 0 ∨ b + 1 < i) : chainV b (vD d :: ys) = false := by
  cases d with
  | int i =>
    show (decide (0 ≤ i) && decide (i ≤ b + 1) && chainV i ys) = false
    rcases h i rfl with h | h
    · rw [decide_eq_false (by omega : ¬ 0 ≤ i)]; rfl
    · rw [decide_eq_false (by omega : ¬ i ≤ b + 1), Bool.and_false]; rfl
  | _ => rfl
/-- one item is wrong -/
theorem not_outD {ns : List Int} {d : PyData} {es : List PyData} (h : ∀ i, d = .int i → i < 0 ∨ lastD (-1) ns + 1 < i) : outD (.list (ns.map PyData.int ++ d :: es)) = false := by
  show outV ((ns.map PyData.int ++ d :: es).map vD) = false
  unfold outV
  rw [List.map_append, map_vD_ints, List.map_cons, chainV_app, not_chain h, Bool.and_false, Bool.and_false]

theorem at_memV {xs : List V} {i : Int} (h0 : 0 ≤ i) (h1 : i < xs.length) : ∃ v, atI xs i = some v ∧ v ∈ xs := by
  obtain ⟨j, rfl⟩ : ∃ j : Nat, i = (j : Int) := ⟨i.toNat, by omega⟩
  have hl : j < xs.length := by omega
  exact ⟨xs[j], atI_nat (by rw [List.getElem?_eq_getElem hl]), List.getElem_mem hl⟩
theorem lastD_take : ∀ (b : Int) (ns : List Int) (i : Nat), i ≤ ns.length → (b :: ns)[i]? = some (lastD b (ns.take i))
  | b, ns, 0, _ => by simp [lastD]
  | b, [], i + 1, h => by simp at h
  | b, d :: r, i + 1, h => by
    have := lastD_take d r i (by simpa using h)
    simpa [lastD] using this
theorem Outline.lastBound {ns : List Int} (h : Outline ns) : 0 ≤ lastD (-1) ns ∧ lastD (-1) ns ≤ 199 := by
  have h1 := h.len
  have := lastD_bound (-1) ns h.chain h1.1
  omega

theorem t_setLast {L R : Lg} {p : Addr} {ns : List Int} {v : Int} {G : Hp → Prop} (hp : Pick p (.lst (ns.map V.int)) L R) (h : 1 ≤ ns.length) (k : Tr ((p, .lst ((ns.dropLast ++ [v]).map V.int)) :: R) G) : Tr L fun H => rSetL (.ref p) (.int (-1)) (.int v) H G := by
  refine t_setL (j := ns.length - 1) hp ?_ (Tr.lcast ?_ k)
  · unfold ixN
    rw [List.length_map, if_neg (by decide), if_pos (by omega)]
    congr 1
    omega
  · obtain ⟨l, x, rfl⟩ : ∃ l x, ns = l ++ [x] := ⟨ns.dropLast, ns.getLast (by intro e; subst e; simp at h), (List.dropLast_concat_getLast _).symm⟩
    simp
theorem Outline.setLast {ns : List Int} {d : Int} (h : Outline ns) (h0 : 0 ≤ d) (h1 : d ≤ lastD (-1) ns) : Outline (ns.dropLast ++ [d]) := by
  have hl := h.len
  obtain ⟨l, x, rfl⟩ : ∃ l x, ns = l ++ [x] := ⟨ns.dropLast, ns.getLast (by intro e; subst e; simp at hl), (List.dropLast_concat_getLast _).symm⟩
  rw [lastD_append] at h1
  obtain ⟨c1, c2, c3, -⟩ := (chainI_append _ _ _).mp h.chain
  rw [List.dropLast_concat]
  rw [List.length_append, List.length_singleton] at hl
  exact outline_iff.mpr ⟨by simp, by simp; omega, (chainI_append _ _ _).mpr ⟨c1, h0, by omega, trivial⟩⟩

/-! ### the law's bag of numbers -/
def Bag (m : Nat) (o : HO) : Prop := ∃ s0 s1 s2 : Int, o = .lst [.int s0, .int s1, .int s2] ∧ 0 ≤ s0 ∧ 0 ≤ s1 ∧ s1 < 2 ^ 140 ∧ 0 ≤ s2 ∧ s2 ≤ m
theorem Bag.le {m n : Nat} {o : HO} (h : Bag m o) (e : m ≤ n) : Bag n o := by
  obtain ⟨s0, s1, s2, h1, h2, h3, h4, h5, h6⟩ := h
  exact ⟨s0, s1, s2, h1, h2, h3, h4, h5, by omega⟩
def sp_law_bag  : Sp := fun vs H Q E => ∃ (c k : Int) (L : Lg), vs = [.int c, .int k] ∧ Led H (L) ∧ (0 ≤ k) ∧ (k < 1000000) ∧ ∀ (p : Addr) (o : HO), (Bag 0 o) → Tr ((p, o) :: L) (fun H => Q (.ref p) H)
theorem use_law_bag {L : Lg} {Q : VK} {E : XK} {c k : Int} (h0 : 0 ≤ k) (h1 : k < 1000000) (q : ∀ (p : Addr) (o : HO), (Bag 0 o) → Tr ((p, o) :: L) (fun H => Q (.ref p) H)) : Tr L fun H => sp_law_bag [.int c, .int k] H Q E :=
  fun H l => ⟨c, k, L, rfl, l, h0, h1, q⟩

theorem ok_law_bag (D : Df K mg "_law_bag" s_law_bag) (B : Blt mg) : Ok P w K mg base CX0 1 "_law_bag" ["cell", "turn"] sp_law_bag := by
  obtain ⟨f, fd, hm, F⟩ := D
  refine ⟨f, fd, hm, F.kp, F.binds (fun _ _ _ _ _ _ us hl => match us, hl with | [_, _], _ => rfl), FunOkG F sc_law_bag (fun vs H Q E h => ?_) (fun cdv A outer s H vs Q E hr h => ?_), F.lk⟩
  · obtain ⟨_, _, _, rfl, _⟩ := h; rfl
  obtain ⟨c, k, L, rfl, l, h0, h1, q⟩ := h
  refine ⟨_, PSs.nox (pss_cons (ps_set (i := 2) sc_law_bag.nd rfl (.inl rfl) (pe_callB (c_max2 rfl) rfl B.max_ boot_max (pa_cons (pv 0) (pa_cons (pe_op op_sub pe_int (pv 0)) pa_nil))))
      (pss_one (ps_ret (pe_lst (pa_cons (pe_callB (c_max2 rfl) rfl B.max_ boot_max (pa_cons pe_int (pa_cons (pe_op op_sub (pv 2) (pe_op op_powW pe_int pe_int)) pa_nil))) (pa_cons (pe_op op_mod (pe_op op_add (pe_op op_mulA (pv 0) (pe_op op_powW pe_int pe_int)) (pe_op op_mulA (pe_op op_powW pe_int pe_int) (pe_op op_add (pv 1) pe_int))) (pe_op op_add (pe_op op_powW pe_int pe_int) pe_int)) (pa_cons pe_int pa_nil))))))), ?_⟩
  rw [show L2.start ["cell", "turn", "size"] [.int c, .int k] = [some (.int c), some (.int k), none] from rfl]
  refine Tr.of ?_ l
  repeat walk_at "hz"
  refine t_rI (pow_ok 4 (by decide) (by decide) (by decide) (by decide)) ?_
  rw [show (10 : Int) ^ (18 : Int).toNat = 1000000000000000000 by decide]
  repeat walk_at "hz"
  refine t_rI (pow_ok 20 (by decide) (by decide) (by decide) (by decide)) ?_
  rw [show (1000003 : Int) ^ (3 : Int).toNat = 1000009000027000027 by decide]
  refine t_rI (.inr (.inl ⟨by decide, by decide⟩)) ?_
  refine t_op ?_
  refine t_op ?_
  repeat walk_at "hz"
  refine t_rI (pow_ok 30 (by decide) (by decide) (by decide) (by decide)) ?_
  repeat walk_at "hz"
  refine t_rI (pow_ok 4 (by decide) (by decide) (by decide) (by decide)) ?_
  rw [show (10 : Int) ^ (42 : Int).toNat = 1000000000000000000000000000000000000000000 by decide]
  repeat walk_at "hz"
  exact q _ _ ⟨_, _, _, rfl, by omega, Int.emod_nonneg _ (by decide), Int.lt_trans (Int.emod_lt_of_pos _ (by decide)) (by decide), by omega, by omega⟩
def sp_law_draw  : Sp := fun vs H Q E => ∃ (a : Addr) (c : Int) (m : Nat) (o : HO) (L : Lg), vs = [.ref a, .int c] ∧ Led H ((a, o) :: L) ∧ (Bag m o) ∧ (m ≤ 1000000000) ∧ (0 < c) ∧ (c < 2 ^ 200) ∧ ∀ (d : Int) (o' : HO), (0 ≤ d) → (d < c) → (Bag (m + 1) o') → Tr ((a, o') :: L) (fun H => Q (.int d) H)
theorem use_law_draw {L0  L : Lg} {Q : VK} {E : XK} {a : Addr} {c : Int} {m : Nat} {o : HO} (hp0 : Pick (a) (o) L0 L) (hs : Bag m o) (hm : m ≤ 1000000000) (h0 : 0 < c) (h1 : c < 2 ^ 200) (q : ∀ (d : Int) (o' : HO), (0 ≤ d) → (d < c) → (Bag (m + 1) o') → Tr ((a, o') :: L) (fun H => Q (.int d) H)) : Tr L0 fun H => sp_law_draw [.ref a, .int c] H Q E :=
  fun H l => ⟨a, c, m, o, L, rfl, l.pick hp0, hs, hm, h0, h1, q⟩

theorem ok_law_draw (D : Df K mg "_law_draw" s_law_draw) (B : Blt mg) : Ok P w K mg base CX0 1 "_law_draw" ["bag", "many"] sp_law_draw := by
  obtain ⟨f, fd, hm, F⟩ := D
  refine ⟨f, fd, hm, F.kp, F.binds (fun _ _ _ _ _ _ us hl => match us, hl with | [_, _], _ => rfl), FunOkG F sc_law_draw (fun vs H Q E h => ?_) (fun cdv A outer s H vs Q E hr h => ?_), F.lk⟩
  · obtain ⟨_, _, _, _, _, rfl, _⟩ := h; rfl
  obtain ⟨a, c, m, o, L, rfl, l, hs, hm, h0, h1, q⟩ := h
  refine ⟨_, PSs.nox (pss_cons (ps_if (pt_cmpR op_gt (pe_ix ix_list (pv 0) pe_int (fun _ _ => rfl)) pe_int (nomark _)) (pss_cons (ps_set (i := 2) sc_law_draw.nd rfl (.inl rfl) (pe_op op_mod (pe_ix ix_list (pv 0) pe_int (fun _ _ => rfl)) (pv 1)))
      (pss_cons (ps_asg (pe_op op_fdivW (pe_ix ix_list (pv 0) pe_int (fun _ _ => rfl)) (pv 1)) (pg_sub (pv 0) pe_int set_list))
      (pss_one (ps_ret (pv 2)))))
        pss_nil)
      (pss_cons (ps_asg (pe_op op_add (pe_ix ix_list (pv 0) pe_int (fun _ _ => rfl)) pe_int) (pg_sub (pv 0) pe_int set_list))
      (pss_cons (ps_set (i := 3) sc_law_draw.nd rfl (.inl rfl) (pe_op op_mod (pe_op op_add (pe_ix ix_list (pv 0) pe_int (fun _ _ => rfl)) (pe_op op_mulA (pe_ix ix_list (pv 0) pe_int (fun _ _ => rfl)) (pe_op op_powW pe_int pe_int))) (pe_op op_add (pe_op op_powW pe_int pe_int) pe_int)))
      (pss_cons (ps_set (i := 3) sc_law_draw.nd rfl (.inl rfl) (pe_op op_add (pe_op op_mod (pe_op op_powW (pv 3) pe_int) (pe_op op_add (pe_op op_powW pe_int pe_int) pe_int)) (pe_op op_mulA (pe_ix ix_list (pv 0) pe_int (fun _ _ => rfl)) pe_int)))
      (pss_one (ps_ret (pe_op op_mod (pe_op op_fdivW (pe_op op_mod (pe_op op_powW (pv 3) pe_int) (pe_op op_add (pe_op op_powW pe_int pe_int) pe_int)) pe_int) (pv 1)))))))), ?_⟩
  rw [show L2.start ["bag", "many", "found", "mixed"] [.ref a, .int c] = [some (.ref a), some (.int c), none, none] from rfl]
  refine Tr.of ?_ l
  repeat walk_at "hz"
  obtain ⟨s0, s1, s2, rfl, g0, g1, g2, g3, g4⟩ := hs
  repeat walk_at "hz"
  have hc : c.natAbs < 2 ^ 200 := by omega
  refine t_iteD (fun h2 => ?_) fun h2 => ?_
  · repeat walk_at "hz"
    refine t_rI (div_ok 200 (by decide) h0 hc (by decide)) ?_
    repeat walk_at "hz"
    refine t_setL .head rfl ?_
    repeat walk_at "hz"
    exact q _ _ (Int.emod_nonneg _ (by omega)) (Int.emod_lt_of_pos _ h0) ⟨_, _, _, rfl, Int.ediv_nonneg g0 (by omega), g1, g2, g3, by omega⟩
  · repeat walk_at "hz"
    refine t_setL .head rfl ?_
    repeat walk_at "hz"
    refine t_rI (pow_ok 40 (by decide) (by decide) (by decide) (by decide)) ?_
    rw [show (2971215073 : Int) ^ (3 : Int).toNat = 26230240268816379069089594017 by decide]
    repeat walk_at "hz"
    refine t_rI (pow_ok 4 (by decide) (by decide) (by decide) (by decide)) ?_
    rw [show (10 : Int) ^ (42 : Int).toNat = 1000000000000000000000000000000000000000000 by decide]
    repeat walk_at "hz"
    generalize hx : (s1 + (s2 + 1) * 26230240268816379069089594017) % (1000000000000000000000000000000000000000000 + 63) = x
    have b1 : 0 ≤ x := by rw [← hx]; exact Int.emod_nonneg _ (by decide)
    have b2 : x < 1000000000000000000000000000000000000000000 + 63 := by rw [← hx]; exact Int.emod_lt_of_pos _ (by decide)
    refine t_rI (pow_ok 200 (by decide) (by omega) (by decide) (by decide)) ?_
    repeat walk_at "hz"
    refine t_rI (pow_ok 4 (by decide) (by decide) (by decide) (by decide)) ?_
    rw [show (10 : Int) ^ (39 : Int).toNat = 1000000000000000000000000000000000000000 by decide]
    repeat walk_at "hz"
    generalize hy : x ^ (3 : Int).toNat % (1000000000000000000000000000000000000000 + 33) = y
    have c1 : 0 ≤ y := by rw [← hy]; exact Int.emod_nonneg _ (by decide)
    have c2 : y < 1000000000000000000000000000000000000000 + 33 := by rw [← hy]; exact Int.emod_lt_of_pos _ (by decide)
    refine t_rI (pow_ok 200 (by decide) (by omega) (by decide) (by decide)) ?_
    repeat walk_at "hz"
    refine t_rI (pow_ok 4 (by decide) (by decide) (by decide) (by decide)) ?_
    rw [show (10 : Int) ^ (37 : Int).toNat = 10000000000000000000000000000000000000 by decide]
    repeat walk_at "hz"
    refine t_rI (div_ok 20 (by decide) (by decide) (by decide) (by decide)) ?_
    repeat walk_at "hz"
    exact q _ _ (Int.emod_nonneg _ (by omega)) (Int.emod_lt_of_pos _ h0) ⟨_, _, _, rfl, g0, g1, g2, by omega, by omega⟩
def sp_law_rising  : Sp := fun vs H Q E => ∃ (a : Addr) (most : Int) (m : Nat) (o : HO) (L : Lg), vs = [.ref a, .int most] ∧ Led H ((a, o) :: L) ∧ (Bag m o) ∧ (m ≤ 100000000) ∧ (1 ≤ most) ∧ (most ≤ 200) ∧ ∀ (ns : List Int) (p : Addr) (o' : HO), (Outline ns) → ((ns.length : Int) ≤ most) → (Bag (m + 1000) o') → Tr ((p, .lst (ns.map V.int)) :: (a, o') :: L) (fun H => Q (.ref p) H)
theorem use_law_rising {L0  L : Lg} {Q : VK} {E : XK} {a : Addr} {most : Int} {m : Nat} {o : HO} (hp0 : Pick (a) (o) L0 L) (hs : Bag m o) (hm : m ≤ 100000000) (h0 : 1 ≤ most) (h1 : most ≤ 200) (q : ∀ (ns : List Int) (p : Addr) (o' : HO), (Outline ns) → ((ns.length : Int) ≤ most) → (Bag (m + 1000) o') → Tr ((p, .lst (ns.map V.int)) :: (a, o') :: L) (fun H => Q (.ref p) H)) : Tr L0 fun H => sp_law_rising [.ref a, .int most] H Q E :=
  fun H l => ⟨a, most, m, o, L, rfl, l.pick hp0, hs, hm, h0, h1, q⟩

theorem ok_law_rising (D : Df K mg "_law_rising" s_law_rising) (B : Blt mg) (k__law_draw : Ok P w K mg base CX0 1 "_law_draw" ["bag", "many"] sp_law_draw) : Ok P w K mg base CX0 2 "_law_rising" ["bag", "most"] sp_law_rising := by
  obtain ⟨f, fd, hm, F⟩ := D
  refine ⟨f, fd, hm, F.kp, F.binds (fun _ _ _ _ _ _ us hl => match us, hl with | [_, _], _ => rfl), FunOkG F sc_law_rising (fun vs H Q E h => ?_) (fun cdv A outer s H vs Q E hr h => ?_), F.lk⟩
  · obtain ⟨_, _, _, _, _, rfl, _⟩ := h; rfl
  obtain ⟨a, most, m, o, L, rfl, l, hs, hm, h0, h1, q⟩ := h
  refine ⟨_, PSs.nox (pss_cons (ps_par (i := 2) (j := 3) (by rfl) sc_law_rising.nd rfl rfl (by decide) rfl rfl (pa_cons (pe_callG k__law_draw (hr.mono (by omega)) pas0 (pa_cons (pv 0) (pa_cons pe_int pa_nil))) (pa_cons (pe_op op_add pe_int (pe_callG k__law_draw (hr.mono (by omega)) pas0 (pa_cons (pv 0) (pa_cons (pv 1) pa_nil)))) pa_nil)) (by rfl))
      (pss_cons (ps_set (i := 4) sc_law_rising.nd rfl (.inl rfl) (pe_lst (pa_cons pe_int pa_nil)))
      (pss_cons (ps_for PassesOwn.never rfl (pi_range1 rfl B.range_ (pa_cons (pe_op op_sub (pv 3) pe_int) pa_nil)) (pg_name (i := 5) sc_law_rising.nd rfl (.inl rfl))
        (pss_cons (ps_set (i := 6) sc_law_rising.nd rfl (.inl rfl) (pe_op op_add (pe_ix ix_list (pv 4) (pe_un un_neg pe_int) (fun _ _ => rfl)) pe_int))
      (pss_cons (ps_set (i := 7) sc_law_rising.nd rfl (.inl rfl) (pe_lst (pa_cons (pe_callG k__law_draw (hr.mono (by omega)) pas0 (pa_cons (pv 0) (pa_cons (pe_op op_add (pv 6) pe_int) pa_nil))) (pa_cons (pe_op op_sub (pv 6) (pe_callTy c_int rfl B.int_ boot_int (pa_cons (pe_cmpR op_eq (pe_callG k__law_draw (hr.mono (by omega)) pas0 (pa_cons (pv 0) (pa_cons pe_int pa_nil))) pe_int (nomark _)) pa_nil))) (pa_cons (pe_callG k__law_draw (hr.mono (by omega)) pas0 (pa_cons (pv 0) (pa_cons (pe_op op_add (pe_callB (c_min2 rfl) rfl B.min_ boot_min (pa_cons (pv 6) (pa_cons pe_int pa_nil))) pe_int) pa_nil))) pa_nil)))))
      (pss_cons (ps_expr (pe_bm PySem.F.plainAttrs_list PySem.F.slot_list_append PySem.F.type_list_append mt_append (pv 7) (pa_cons (pe_callB (c_max2 rfl) rfl B.max_ boot_max (pa_cons pe_int (pa_cons (pe_op op_sub (pv 6) (pe_callG k__law_draw (hr.mono (by omega)) pas0 (pa_cons (pv 0) (pa_cons pe_int pa_nil)))) pa_nil))) pa_nil)))
      (pss_one (ps_expr (pe_bm PySem.F.plainAttrs_list PySem.F.slot_list_append PySem.F.type_list_append mt_append (pv 4) (pa_cons (pe_callB (c_max2 rfl) rfl B.max_ boot_max (pa_cons pe_int (pa_cons (pe_ix ix_list (pv 7) (pv 2) (fun _ _ => rfl)) pa_nil))) pa_nil))))))))
      (pss_one (ps_ret (pv 4)))))), ?_⟩
  rw [show L2.start ["bag", "most", "style", "many", "found", "turn", "top", "some"] [.ref a, .int most] = [some (.ref a), some (.int most), none, none, none, none, none, none] from rfl]
  refine Tr.of ?_ l
  repeat walk_at "hz"
  refine use_law_draw (by walk_at "pk") hs (by omega) (by omega) (by omega) fun style o_style stylel styleh hs => ?_
  repeat walk_at "hz"
  refine use_law_draw (by walk_at "pk") hs (by omega) (by omega) (by omega) fun many o_many manyl manyh hs => ?_
  repeat walk_at "hz"
  rename_i p
  refine t_forK wk_range (fun t ((ns, o, j5, j6, j7) : (List Int) × HO × Option V × Option V × Option V) => [some (.ref a), some (.int most), some (.int style), some (.int (1 + many)), some (.ref p), j5, j6, j7]) (fun t ((ns, o, j5, j6, j7) : (List Int) × HO × Option V × Option V × Option V) => (p, .lst (ns.map V.int)) :: (a, o) :: L) (fun t ((ns, o, j5, j6, j7) : (List Int) × HO × Option V × Option V × Option V) => ns.length = t + 1 ∧ chainI (-1) ns ∧ Bag (m + 2 + 4 * t) o) ⟨([0], o_many, _, _, _), ⟨rfl, ⟨by decide, by decide, trivial⟩, hs⟩, rfl, (by walk_at "sb")⟩ (fun _ _ _ => trivial) ?_ ?_
  · rintro t ⟨ns, o, j5, j6, j7⟩ v L' ht ⟨hl, hc, hs⟩ ⟨rfl, rfl⟩
    try dsimp only at hl hc hs ⊢
    simp only [List.nil_append, List.cons_append]
    have lb := lastD_bound (-1) ns hc (by omega)
    repeat walk_at "hz"
    refine t_ixL (by walk_at "pk") (at_lastD (-1) (by omega)) ?_
    repeat walk_at "hz"
    refine use_law_draw (by walk_at "pk") hs (by omega) (by omega) (by omega) fun e1 o_e1 e1l e1h hs => ?_
    repeat walk_at "hz"
    refine use_law_draw (by walk_at "pk") hs (by omega) (by omega) (by omega) fun e2 o_e2 e2l e2h hs => ?_
    repeat walk_at "hz"
    have eb : 0 ≤ (if decide (e2 = 0) = true then (1 : Int) else 0) ∧ (if decide (e2 = 0) = true then (1 : Int) else 0) ≤ 1 := by split <;> omega
    generalize (if decide (e2 = 0) = true then (1 : Int) else 0) = ee at eb
    refine use_law_draw (by walk_at "pk") hs (by omega) (by omega) (by omega) fun e3 o_e3 e3l e3h hs => ?_
    repeat walk_at "hz"
    rename_i pp
    refine use_law_draw (by walk_at "pk") hs (by omega) (by omega) (by omega) fun e4 o_e4 e4l e4h hs => ?_
    repeat walk_at "hz"
    obtain ⟨n, hn, nm, -⟩ := at_mem (ns := [e1, lastD (-1) ns + 1 - ee, e3, max 0 (lastD (-1) ns + 1 - e4)]) stylel (by simpa using styleh)
    have nb : n ≤ lastD (-1) ns + 1 := by
      simp only [List.mem_cons, List.not_mem_nil, or_false] at nm
      omega
    refine t_ixL (by walk_at "pk") hn ?_
    repeat walk_at "hz"
    refine t_pst (ns ++ [max 0 n], o_e4, _, _, _) ⟨(by (try dsimp only); (try simp only [List.length_append, List.length_cons, List.length_nil, List.length_map, List.length_singleton]); omega), (chainI_append _ _ _).mpr ⟨hc, by omega, by omega, trivial⟩, hs.le (by omega)⟩ rfl (by walk_at "sb")
  · rintro ⟨ns, o, j5, j6, j7⟩ ⟨hl, hc, hs⟩
    try dsimp only at hl hc hs ⊢
    repeat walk_at "hz"
    exact q ns p o (outline_iff.mpr ⟨by omega, by omega, hc⟩) (by omega) (hs.le (by omega))

/-- the least line that stands at or behind the scroll -/
structure TopIs (f : Int → Int) (n s t : Int) : Prop where
  lo : 0 ≤ t
  hi : t < n
  ok : s ≤ t - f t
  least : ∀ k, 0 ≤ k → k < t → k - f k < s
theorem TopIs.uniq {f : Int → Int} {n s t t' : Int} (h : TopIs f n s t) (h' : TopIs f n s t') : t = t' := by
  have a := h.least t' h'.lo
  have b := h'.least t h.lo
  have := h.ok
  have := h'.ok
  omega
theorem Stp.stops {f : Int → Int} {n : Nat} (S : Stp f n) : ∀ (k i : Nat), i + k < n → (i : Int) - f i ≤ ((i + k : Nat) : Int) - f ((i + k : Nat) : Int)
  | 0, _, _ => Int.le_refl _
  | k + 1, i, h => by
    have := S.stops k i (by omega)
    have := S.up (i + k) (by omega)
    rw [show ((i + (k + 1) : Nat) : Int) = ((i + k + 1 : Nat) : Int) by omega]
    omega
theorem Outline.mono {ns : List Int} (h : Outline ns) {i j : Int} (h0 : 0 ≤ i) (h1 : i ≤ j) (h2 : j < ns.length) : i - atD ns i ≤ j - atD ns j := by
  have := h.stp.stops (j - i).toNat i.toNat (by omega)
  rw [show ((i.toNat + (j - i).toNat : Nat) : Int) = j by omega, Int.toNat_of_nonneg h0] at this
  exact this
theorem topIs_iff {ns : List Int} (h : Outline ns) {s t : Int} (h0 : 0 ≤ t) : TopIs (atD ns) ns.length s t ↔ t < ns.length ∧ s ≤ t - atD ns t ∧ (0 < t → t - 1 - atD ns (t - 1) < s) := by
  constructor
  · intro x
    exact ⟨x.hi, x.ok, fun p => x.least (t - 1) (by omega) (by omega)⟩
  · rintro ⟨a, b, c⟩
    refine ⟨h0, a, b, fun k k0 k1 => ?_⟩
    have := h.mono k0 (show k ≤ t - 1 by omega) (by omega)
    have := c (by omega)
    omega
theorem atD_last {ns : List Int} (h : 1 ≤ ns.length) : atD ns ((ns.length : Int) - 1) = lastD (-1) ns := by
  have := at_lastD (-1) h
  have e := atI_nat (α := V) (xs := ns.map V.int) (j := ns.length - 1) (v := .int (lastD (-1) ns)) (by have := last_get (-1) h; rwa [List.length_map] at this)
  have e2 := atD_at (ns := ns) (i := (ns.length : Int) - 1) (by omega) (by omega)
  rw [show ((ns.length - 1 : Nat) : Int) = (ns.length : Int) - 1 by omega] at e
  rw [e] at e2
  exact (V.int.inj (Option.some.inj e2)).symm
theorem Outline.top {ns : List Int} (h : Outline ns) {s : Int} (hs : s ≤ ns.length - 1 - lastD (-1) ns) : ∃ k : Int, 0 ≤ k ∧ k < ns.length ∧ s ≤ k - atD ns k :=
  ⟨ns.length - 1, by have := h.len; omega, by omega, by rw [atD_last h.len.1]; exact hs⟩
/-- is the top line at the scroll position this one -/
noncomputable def topB (f : Int → Int) (n : Int) (p : Int × Int) : Bool := @decide (TopIs f n p.1 p.2) (Classical.propDecidable _)
theorem topB_iff {f : Int → Int} {n : Int} {p : Int × Int} : topB f n p = true ↔ TopIs f n p.1 p.2 := by
  unfold topB
  exact @decide_eq_true_iff _ (Classical.propDecidable _)
theorem topB_eq {f : Int → Int} {n : Int} {p : Int × Int} {r : Bool} (h : r = true ↔ TopIs f n p.1 p.2) : r = topB f n p := by
  rw [Bool.eq_iff_iff, h, topB_iff]

def sp_law_cells (K : PySem.W.Frag) : Sp := fun vs H Q E => ∃ (a : Addr) (ns : List Int) (L : Lg), vs = [.ref a] ∧ Led H (L) ∧ (Scr K L a ns) ∧ (ns.length ≤ 63) ∧ ∀ (p : Addr) (cs : List Int), (cs.length ≤ 8) → Tr ((p, .lst (cs.map V.int)) :: L) (fun H => Q (.ref p) H)
theorem use_law_cells {L : Lg} {Q : VK} {E : XK} {a : Addr} {ns : List Int} (hS : Scr K L a ns) (hl : ns.length ≤ 63) (q : ∀ (p : Addr) (cs : List Int), (cs.length ≤ 8) → Tr ((p, .lst (cs.map V.int)) :: L) (fun H => Q (.ref p) H)) : Tr L fun H => sp_law_cells K [.ref a] H Q E :=
  fun H l => ⟨a, ns, L, rfl, l, hS, hl, q⟩

theorem ok_law_cells (D : Df K mg "_law_cells" s_law_cells) (B : Blt mg) : Ok P w K mg base CX0 1 "_law_cells" ["script"] (sp_law_cells K) := by
  obtain ⟨f, fd, hm, F⟩ := D
  refine ⟨f, fd, hm, F.kp, F.binds (fun _ _ _ _ _ _ us hl => match us, hl with | [_], _ => rfl), FunOkG F sc_law_cells (fun vs H Q E h => ?_) (fun cdv A outer s H vs Q E hr h => ?_), F.lk⟩
  · obtain ⟨_, _, _, rfl, _⟩ := h; rfl
  obtain ⟨a, ns, L, rfl, l, hS, hl, q⟩ := h
  refine ⟨_, PSs.nox (pss_one (ps_ret (pe_op op_cat (pe_lst (pa_cons (pe_callB c_len rfl B.len_ boot_len (pa_cons (pv 0) pa_nil)) pa_nil)) (pe_slice sl_list (pv 0) po_none (po_some pe_int))))), ?_⟩
  rw [show L2.start ["script"] [.ref a] = [some (.ref a)] from rfl]
  refine Tr.of ?_ l
  repeat walk_at "hz"
  refine t_lenSc hS ?_
  repeat walk_at "hz"
  refine t_slSc hS.cons fun c => ?_
  refine Tr.lcast (cut_ints ns none (some 7)) ?_
  have h7 : (cutI ns none (some 7)).length ≤ 7 := by
    rw [cutI_upto (by decide), List.length_take]; omega
  refine t_cat (xs := [.int ns.length]) (ys := (cutI ns none (some 7)).map V.int) (.tail .head) .head (by rw [sizeLine_eq, List.length_map]; simp; omega) fun d => ?_
  exact (q d ((ns.length : Int) :: cutI ns none (some 7)) (by simp; omega)).sub (by walk_at "sb")
def sp_law_sized (K : PySem.W.Frag) : Sp := fun vs H Q E => ∃ (z a : Addr) (zs : List Int) (small great : Int) (m : Nat) (o : HO) (L : Lg), vs = [.ref z, .ref a, .int small, .int great] ∧ Led H ((a, o) :: L) ∧ (Scr K L z zs) ∧ (Bag m o) ∧ (m ≤ 100000) ∧ (1 ≤ small ∧ small ≤ 200) ∧ (8 ≤ great ∧ great ≤ 200) ∧ (small ≤ great) ∧ ∀ (ns : List Int) (p : Addr) (o' : HO), (Outline ns) → ((ns.length : Int) ≤ great) → (Bag (m + 1001) o') → Tr ((p, .lst (ns.map V.int)) :: (a, o') :: L) (fun H => Q (.ref p) H)
theorem use_law_sized {L0  L : Lg} {Q : VK} {E : XK} {z a : Addr} {zs : List Int} {small great : Int} {m : Nat} {o : HO} (hp0 : Pick (a) (o) L0 L) (hS : Scr K L z zs) (hs : Bag m o) (hm : m ≤ 100000) (h0 : 1 ≤ small ∧ small ≤ 200) (h1 : 8 ≤ great ∧ great ≤ 200) (h2 : small ≤ great) (q : ∀ (ns : List Int) (p : Addr) (o' : HO), (Outline ns) → ((ns.length : Int) ≤ great) → (Bag (m + 1001) o') → Tr ((p, .lst (ns.map V.int)) :: (a, o') :: L) (fun H => Q (.ref p) H)) : Tr L0 fun H => sp_law_sized K [.ref z, .ref a, .int small, .int great] H Q E :=
  fun H l => ⟨z, a, zs, small, great, m, o, L, rfl, l.pick hp0, hS, hs, hm, h0, h1, h2, q⟩

theorem ok_law_sized (D : Df K mg "_law_sized" s_law_sized) (B : Blt mg) (k__law_draw : Ok P w K mg base CX0 1 "_law_draw" ["bag", "many"] sp_law_draw) (k__law_rising : Ok P w K mg base CX0 2 "_law_rising" ["bag", "most"] sp_law_rising) : Ok P w K mg base CX0 3 "_law_sized" ["script", "bag", "small", "great"] (sp_law_sized K) := by
  obtain ⟨f, fd, hm, F⟩ := D
  refine ⟨f, fd, hm, F.kp, F.binds (fun _ _ _ _ _ _ us hl => match us, hl with | [_, _, _, _], _ => rfl), FunOkG F sc_law_sized (fun vs H Q E h => ?_) (fun cdv A outer s H vs Q E hr h => ?_), F.lk⟩
  · obtain ⟨_, _, _, _, _, _, _, _, rfl, _⟩ := h; rfl
  obtain ⟨z, a, zs, small, great, m, o, L, rfl, l, hS, hs, hm, h0, h1, h2, q⟩ := h
  refine ⟨_, PSs.nox (pss_cons (ps_if (pt_cmpR (op_eqD hr.rm.units) (pv 0) (pe_lst pa_nil) (nomark _)) (pss_one (ps_ret (pe_callG k__law_rising (hr.mono (by omega)) pas0 (pa_cons (pv 1) (pa_cons pe_int pa_nil)))))
        pss_nil)
      (pss_one (ps_ret (pe_callG k__law_rising (hr.mono (by omega)) pas0 (pa_cons (pv 1) (pa_cons (pe_ix ix_list (pe_lst (pa_cons pe_int (pa_cons (pv 2) (pa_cons (pv 3) pa_nil)))) (pe_callG k__law_draw (hr.mono (by omega)) pas0 (pa_cons (pv 1) (pa_cons pe_int pa_nil))) (fun _ _ => rfl)) pa_nil)))))), ?_⟩
  rw [show L2.start ["script", "bag", "small", "great"] [.ref z, .ref a, .int small, .int great] = [some (.ref z), some (.ref a), some (.int small), some (.int great)] from rfl]
  refine Tr.of ?_ l
  repeat walk_at "hz"
  refine t_eqSc (zs := []) hS.cons.cons (by walk_at "mb") ?_
  repeat walk_at "hz"
  refine t_iteD (fun h => ?_) fun h => ?_
  · repeat walk_at "hz"
    refine use_law_rising (by walk_at "pk") hs (by omega) (by omega) (by omega) fun ns p o1 ho hn hs => ?_
    exact (q ns p o1 ho (by omega) (hs.le (by omega))).sub (by walk_at "sb")
  · repeat walk_at "hz"
    refine use_law_draw (by walk_at "pk") hs (by omega) (by omega) (by omega) fun e o_e el eh hs => ?_
    repeat walk_at "hz"
    obtain ⟨x, x_at, x_mem, -⟩ := at_mem (ns := [8, small, great]) el (by simpa using eh)
    have xb : 1 ≤ x ∧ x ≤ great := by
      simp only [List.mem_cons, List.not_mem_nil, or_false] at x_mem
      omega
    refine t_ixL (by walk_at "pk") x_at ?_
    repeat walk_at "hz"
    refine use_law_rising (by walk_at "pk") hs (by omega) (by omega) (by omega) fun ns p o1 ho hn hs => ?_
    exact (q ns p o1 ho (by omega) (hs.le (by omega))).sub (by walk_at "sb")

/-! ### check_line, headings_of, headings, section, children -/
/-- is it the number of a line -/
def rgV (n : Int) : V → Bool
  | .int i => decide (0 ≤ i) && decide (i < n)
  | _ => false
theorem rgV_int (n i : Int) : rgV n (.int i) = (decide (0 ≤ i) && decide (i < n)) := rfl
theorem rgV_not {n : Int} {x : V} (h : isInt x = false) : rgV n x = false := by cases x <;> first | rfl | cases h
def sp_check_line (C_InvalidLineError : Addr) : Sp := fun vs H Q E => ∃ (a : Addr) (ns : List Int) (x : V) (T : String) (L : Lg), vs = [.ref a, x] ∧ Led H (L) ∧ ((a, .lst (ns.map V.int)) ∈ L) ∧ (HasTy L x T) ∧ ((rgV ns.length x = true) → (Tr (L) (fun H => Q (.non) H))) ∧ ((rgV ns.length x = false) → Tr (L) (fun H => E (.ref C_InvalidLineError) none H))
theorem use_check_line {L : Lg} {Q : VK} {E : XK} {a : Addr} {ns : List Int} {x : V} {T : String} (hm : (a, .lst (ns.map V.int)) ∈ L) (ht : HasTy L x T) (q : (rgV ns.length x = true) → (Tr (L) (fun H => Q (.non) H))) (x0 : (rgV ns.length x = false) → Tr (L) (fun H => E (.ref C_InvalidLineError) none H)) : Tr L fun H => sp_check_line C_InvalidLineError [.ref a, x] H Q E :=
  fun H l => ⟨a, ns, x, T, L, rfl, l, hm, ht, q, x0⟩

theorem ok_check_line {C_InvalidLineError : Addr} (D : Df K mg "check_line" s_check_line) (B : Blt mg) (X_InvalidLineError : ExcC K mg "InvalidLineError" C_InvalidLineError) (k_is_integer : Ok P w K mg base CX0 1 "is_integer" ["value"] sp_is_integer) : Ok P w K mg base (L2.CX P w) 2 "check_line" ["outline", "line"] (sp_check_line C_InvalidLineError) := by
  obtain ⟨f, fd, hm, F⟩ := D
  refine ⟨f, fd, hm, F.kp, F.binds (fun _ _ _ _ _ _ us hl => match us, hl with | [_, _], _ => rfl), FunOkG F sc_check_line (fun vs H Q E h => ?_) (fun cdv A outer s H vs Q E hr h => ?_), F.lk⟩
  · obtain ⟨_, _, _, _, _, rfl, _⟩ := h; rfl
  obtain ⟨a, ns, x, T, L, rfl, l, hm, ht, q, x0⟩ := h
  refine ⟨_, (pss_one (ps_if (PW.pt (pw_or (pt_not (pt_val (pe_callG k_is_integer (hr.mono (by omega)) pas0 (pa_cons (pv 1) pa_nil)))) (pw_or1 (pt_not (pt_chain op_le op_lt pe_int (pv 1) (pe_callB c_len rfl B.len_ boot_len (pa_cons (pv 0) pa_nil))))))) (pss_one (ps_raise rfl (takes_of rfl rfl rfl rfl) (pe_mk X_InvalidLineError)))
        pss_nil)), ?_⟩
  rw [show L2.start ["outline", "line"] [.ref a, x] = [some (.ref a), some x] from rfl]
  refine Tr.of ?_ l
  obtain ⟨R_hm, P_hm⟩ := Pick.of_mem hm
  repeat walk_at "hz"
  refine use_is_integer ht ?_
  repeat walk_at "hz"
  by_cases c : isInt x = true
  · obtain ⟨n, rfl⟩ : ∃ n, x = .int n := by cases x <;> first | exact ⟨_, rfl⟩ | cases c
    repeat walk_at "hz"
    refine t_iteD (fun h1 => ?_) fun h1 => ?_
    · repeat walk_at "hz"
      refine t_iteND (fun h2 => ?_) fun h2 => ?_
      · repeat walk_at "hz"
        exact x0 (by rw [rgV_int, decide_eq_false h2, Bool.and_false])
      · repeat walk_at "hz"
        exact q (by rw [rgV_int, decide_eq_true h1, decide_eq_true h2]; rfl)
    · repeat walk_at "hz"
      exact x0 (by rw [rgV_int, decide_eq_false h1, Bool.false_and])
  · have c2 : isInt x = false := by simpa using c
    rw [c2]
    repeat walk_at "hz"
    exact x0 (rgV_not c2)
/-- is it a height -/
def htV : V → Bool
  | .int i => decide (1 ≤ i) && decide (i ≤ 400)
  | _ => false
theorem htV_int (i : Int) : htV (.int i) = (decide (1 ≤ i) && decide (i ≤ 400)) := rfl
theorem htV_not {x : V} (h : isInt x = false) : htV x = false := by cases x <;> first | rfl | cases h
def sp_check_height (C_InvalidHeightError : Addr) : Sp := fun vs H Q E => ∃ (x : V) (T : String) (L : Lg), vs = [x] ∧ Led H (L) ∧ (HasTy L x T) ∧ ((htV x = true) → (Tr (L) (fun H => Q (.non) H))) ∧ ((htV x = false) → Tr (L) (fun H => E (.ref C_InvalidHeightError) none H))
theorem use_check_height {L : Lg} {Q : VK} {E : XK} {x : V} {T : String} (ht : HasTy L x T) (q : (htV x = true) → (Tr (L) (fun H => Q (.non) H))) (x0 : (htV x = false) → Tr (L) (fun H => E (.ref C_InvalidHeightError) none H)) : Tr L fun H => sp_check_height C_InvalidHeightError [x] H Q E :=
  fun H l => ⟨x, T, L, rfl, l, ht, q, x0⟩

theorem ok_check_height {C_InvalidHeightError : Addr} (D : Df K mg "check_height" s_check_height) (B : Blt mg) (X_InvalidHeightError : ExcC K mg "InvalidHeightError" C_InvalidHeightError) (g_MOST_ROWS : GV mg "MOST_ROWS" (.int 400)) (k_is_integer : Ok P w K mg base CX0 1 "is_integer" ["value"] sp_is_integer) : Ok P w K mg base (L2.CX P w) 2 "check_height" ["height"] (sp_check_height C_InvalidHeightError) := by
  obtain ⟨f, fd, hm, F⟩ := D
  refine ⟨f, fd, hm, F.kp, F.binds (fun _ _ _ _ _ _ us hl => match us, hl with | [_], _ => rfl), FunOkG F sc_check_height (fun vs H Q E h => ?_) (fun cdv A outer s H vs Q E hr h => ?_), F.lk⟩
  · obtain ⟨_, _, _, rfl, _⟩ := h; rfl
  obtain ⟨x, T, L, rfl, l, ht, q, x0⟩ := h
  refine ⟨_, (pss_one (ps_if (PW.pt (pw_or (pt_not (pt_val (pe_callG k_is_integer (hr.mono (by omega)) pas0 (pa_cons (pv 0) pa_nil)))) (pw_or1 (pt_not (pt_chain op_le op_le pe_int (pv 0) (pe_gv g_MOST_ROWS)))))) (pss_one (ps_raise rfl (takes_of rfl rfl rfl rfl) (pe_mk X_InvalidHeightError)))
        pss_nil)), ?_⟩
  rw [show L2.start ["height"] [x] = [some x] from rfl]
  refine Tr.of ?_ l
  repeat walk_at "hz"
  refine use_is_integer ht ?_
  repeat walk_at "hz"
  by_cases c : isInt x = true
  · obtain ⟨n, rfl⟩ : ∃ n, x = .int n := by cases x <;> first | exact ⟨_, rfl⟩ | cases c
    repeat walk_at "hz"
    refine t_iteD (fun h1 => ?_) fun h1 => ?_
    · repeat walk_at "hz"
      refine t_iteND (fun h2 => ?_) fun h2 => ?_
      · repeat walk_at "hz"
        exact x0 (by rw [htV_int, decide_eq_false h2, Bool.and_false])
      · repeat walk_at "hz"
        exact q (by rw [htV_int, decide_eq_true h1, decide_eq_true h2]; rfl)
    · repeat walk_at "hz"
      exact x0 (by rw [htV_int, decide_eq_false h1, Bool.false_and])
  · have c2 : isInt x = false := by simpa using c
    rw [c2]
    repeat walk_at "hz"
    exact x0 (htV_not c2)
def sp_last_of_section  : Sp := fun vs H Q E => ∃ (a : Addr) (ns : List Int) (i : Int) (L : Lg), vs = [.ref a, .int i] ∧ Led H (L) ∧ ((a, .lst (ns.map V.int)) ∈ L) ∧ (0 ≤ i) ∧ (i < ns.length) ∧ ∀ (e : Int), (SecEnd (atD ns) ns.length i e) → Tr (L) (fun H => Q (.int e) H)
theorem use_last_of_section {L : Lg} {Q : VK} {E : XK} {a : Addr} {ns : List Int} {i : Int} (hm : (a, .lst (ns.map V.int)) ∈ L) (h0 : 0 ≤ i) (h1 : i < ns.length) (q : ∀ (e : Int), (SecEnd (atD ns) ns.length i e) → Tr (L) (fun H => Q (.int e) H)) : Tr L fun H => sp_last_of_section [.ref a, .int i] H Q E :=
  fun H l => ⟨a, ns, i, L, rfl, l, hm, h0, h1, q⟩

theorem ok_last_of_section (D : Df K mg "last_of_section" s_last_of_section) (B : Blt mg) : Ok P w K mg base CX0 1 "last_of_section" ["outline", "line"] sp_last_of_section := by
  obtain ⟨f, fd, hm, F⟩ := D
  refine ⟨f, fd, hm, F.kp, F.binds (fun _ _ _ _ _ _ us hl => match us, hl with | [_, _], _ => rfl), FunOkG F sc_last_of_section (fun vs H Q E h => ?_) (fun cdv A outer s H vs Q E hr h => ?_), F.lk⟩
  · obtain ⟨_, _, _, _, rfl, _⟩ := h; rfl
  obtain ⟨a, ns, i, L, rfl, l, hm, h0, h1, q⟩ := h
  refine ⟨_, PSs.nox (pss_cons (ps_set (i := 2) sc_last_of_section.nd rfl (.inl rfl) (pv 1))
      (pss_cons (ps_while PassesOwn.never (PW.pt (pw_and (pt_cmpR op_lt (pe_op op_add (pv 2) pe_int) (pe_callB c_len rfl B.len_ boot_len (pa_cons (pv 0) pa_nil)) (nomark _)) (pw_and1 (pt_cmpR op_gt (pe_ix ix_list (pv 0) (pe_op op_add (pv 2) pe_int) (fun _ _ => rfl)) (pe_ix ix_list (pv 0) (pv 1) (fun _ _ => rfl)) (nomark _)))))
        (pss_one (ps_aug (i := 2) sc_last_of_section.nd rfl (.inl rfl) pe_int ip_add)))
      (pss_one (ps_ret (pv 2))))), ?_⟩
  rw [show L2.start ["outline", "line", "last"] [.ref a, .int i] = [some (.ref a), some (.int i), none] from rfl]
  refine Tr.of ?_ l
  obtain ⟨R_hm, P_hm⟩ := Pick.of_mem hm
  repeat walk_at "hz"
  obtain ⟨R, hp⟩ := Pick.of_mem hm
  repeat walk_at "hz"
  refine t_while (fun e => [some (.ref a), some (.int i), some (.int e)]) (fun _ => L) (fun e => i ≤ e ∧ e < ns.length ∧ ∀ k, i < k → k ≤ e → atD ns i < atD ns k) (fun e => (ns.length - e).toNat) ⟨i, ⟨Int.le_refl _, h1, fun k _ _ => by omega⟩, rfl, .refl⟩ ?_
  rintro e ⟨g1, g2, g3⟩
  refine ⟨decide (e + 1 < ns.length) && decide (atD ns i < atD ns (e + 1)), fun QB k => ?_, fun hb => ?_, fun hb => ?_⟩
  · repeat walk_at "hz"
    refine t_iteD (fun h2 => ?_) fun h2 => ?_
    · repeat walk_at "hz"
      rw [decide_eq_true h2, Bool.true_and] at k
      exact k
    · repeat walk_at "hz"
      rw [decide_eq_false h2, Bool.false_and] at k
      exact k
  · rw [Bool.and_eq_true, decide_eq_true_eq, decide_eq_true_eq] at hb
    repeat walk_at "hz"
    refine t_whl (e + 1) ⟨by omega, hb.1, fun k h3 h4 => ?_⟩ (by omega) rfl (by walk_at "sb")
    by_cases h5 : k = e + 1
    · rw [h5]; exact hb.2
    · exact g3 k h3 (by omega)
  · repeat walk_at "hz"
    refine q e ⟨g1, g2, g3, fun h => ?_⟩
    rw [decide_eq_true h, Bool.true_and, decide_eq_false_iff_not] at hb
    omega
/-! ### folds -/
def nextL : List Int → Bool
  | a :: b :: r => decide (a < b) && nextL (b :: r)
  | _ => true
theorem nextL_asc : ∀ {zs : List Int}, zs.Pairwise (· < ·) → nextL zs = true
  | [], _ => rfl
  | [a], _ => rfl
  | a :: b :: r, h => by
    have h1 := List.pairwise_cons.mp h
    rw [nextL, decide_eq_true (h1.1 b (.head _)), Bool.true_and]
    exact nextL_asc h1.2
theorem nextL_at : ∀ (zs : List Int), ((List.range (min zs.length (zs.drop 1).length)).map fun i => decide (atD zs (i : Nat) < atD (zs.drop 1) (i : Nat))).all id = nextL zs
  | [] => rfl
  | [a] => rfl
  | a :: b :: r => by
    have ih := nextL_at (b :: r)
    rw [nextL, ← ih]
    rw [show min (a :: b :: r).length ((a :: b :: r).drop 1).length = min (b :: r).length ((b :: r).drop 1).length + 1 by simp]
    rw [List.range_succ_eq_map, List.map_cons, List.all_cons, List.map_map]
    rfl
/-- a valid list of folds -/
structure FoldsOk (n : Nat) (ms : List Int) : Prop where
  asc : ms.Pairwise (· < ·)
  rg : ∀ m ∈ ms, 0 ≤ m ∧ m < n
theorem FoldsOk.len {n : Nat} {ms : List Int} (h : FoldsOk n ms) : ms.length ≤ n := few_ints n ms (h.asc.imp fun {a b} h => by omega) h.rg
/-- a heading of the line is folded -/
def Hid (f : Int → Int) (M : List Int) (k : Int) : Prop := ∃ i ∈ M, i < k ∧ ∀ j, i < j → j ≤ k → f i < f j
noncomputable def hidB (f : Int → Int) (M : List Int) (k : Int) : Bool := @decide (Hid f M k) (Classical.propDecidable _)
theorem hidB_iff {f : Int → Int} {M : List Int} {k : Int} : hidB f M k = true ↔ Hid f M k := by
  unfold hidB
  exact @decide_eq_true_iff _ (Classical.propDecidable _)
theorem hidB_no {f : Int → Int} {M : List Int} {k : Int} (h : ¬ Hid f M k) : hidB f M k = false := Bool.eq_false_iff.mpr fun e => h (hidB_iff.mp e)
/-- the lines that are left, up to a line -/
noncomputable def leftU (f : Int → Int) (M : List Int) (x : Int) : List Int := (rgI 0 x).filter fun k => !hidB f M k
theorem rg_app {a b c : Int} (h1 : a ≤ b) (h2 : b ≤ c) : rgI a c = rgI a b ++ rgI b c := by
  unfold rgI
  rw [show (c - a).toNat = (b - a).toNat + (c - b).toNat by omega, List.range_add, List.map_append, List.map_map]
  congr 1
  refine List.map_congr_left fun i _ => ?_
  show a + (((b - a).toNat + i : Nat) : Int) = b + i
  omega
theorem rg_one (a : Int) : rgI a (a + 1) = [a] := by
  unfold rgI
  rw [show (a + 1 - a).toNat = 1 by omega]
  simp
theorem rg_in {a b x : Int} : x ∈ rgI a b ↔ a ≤ x ∧ x < b := by
  unfold rgI
  rw [List.mem_map]
  constructor
  · rintro ⟨i, hi, rfl⟩
    have := List.mem_range.mp hi
    omega
  · rintro ⟨h0, h1⟩
    exact ⟨(x - a).toNat, List.mem_range.mpr (by omega), by omega⟩
theorem leftU_len (f : Int → Int) (M : List Int) (x : Int) : (leftU f M x).length ≤ x.toNat := by
  unfold leftU
  refine Nat.le_trans (List.length_filter_le _ _) ?_
  rw [rgI_len]
  omega
theorem leftU_step {f : Int → Int} {M : List Int} {x e : Int} (h0 : 0 ≤ x) (h1 : x ≤ e) (hx : ¬ Hid f M x) (hs : ∀ k, x < k → k ≤ e → Hid f M k) : leftU f M (e + 1) = leftU f M x ++ [x] := by
  unfold leftU
  rw [rg_app h0 (show x ≤ e + 1 by omega), rg_app (show x ≤ x + 1 by omega) (show x + 1 ≤ e + 1 by omega), rg_one, List.filter_append, List.filter_append]
  congr 1
  rw [show (rgI (x + 1) (e + 1)).filter (fun k => !hidB f M k) = [] from List.filter_eq_nil_iff.mpr fun k hk => by
    have := rg_in.mp hk
    rw [hidB_iff.mpr (hs k (by omega) (by omega))]
    decide]
  rw [List.filter_cons, hidB_no hx]
  rfl
theorem hid_next {f : Int → Int} {M : List Int} {x : Int} (hx : ¬ Hid f M x) (hm : x ∉ M) : ¬ Hid f M (x + 1) := by
  rintro ⟨i, im, il, ij⟩
  by_cases c : i = x
  · rw [c] at im; exact hm im
  · exact hx ⟨i, im, by omega, fun j a b => ij j a (by omega)⟩
theorem hid_after {f : Int → Int} {n : Int} {M : List Int} {x e : Int} (hx : ¬ Hid f M x) (he : SecEnd f n x e) (h1 : e + 1 < n) : ¬ Hid f M (e + 1) := by
  rintro ⟨i, im, il, ij⟩
  have st := he.stop h1
  have lo := he.lo
  by_cases c : i < x
  · exact hx ⟨i, im, c, fun j a b => ij j a (by omega)⟩
  · have a := ij (e + 1) (by omega) (Int.le_refl _)
    by_cases c2 : i = x
    · rw [c2] at a; omega
    · have := he.deep i (by omega) (by omega)
      omega

/-- a value as folds of n lines: good or bad -/
inductive FoldIs (L : Lg) (n : Nat) : V → Bool → Prop where
  | good {b : Addr} {ms : List Int} (hb : (b, HO.lst (ms.map V.int)) ∈ L) (hf : FoldsOk n ms) : FoldIs L n (.ref b) true
  | kind {y : V} {T : String} (ht : HasTy L y T) (hn : T ≠ "list") : FoldIs L n y false
  | item {b : Addr} {xs : List V} (hb : (b, HO.lst xs) ∈ L) (ht : ∀ x ∈ xs, ∃ T, HasTy L x T) (hl : xs.length ≤ 1000) (hx : ∃ x ∈ xs, rgV n x = false) : FoldIs L n (.ref b) false
  | order {b : Addr} {ms : List Int} (hb : (b, HO.lst (ms.map V.int)) ∈ L) (hr : ∀ m ∈ ms, 0 ≤ m ∧ m < n) (hl : ms.length ≤ 1000) (hn : nextL ms = false) : FoldIs L n (.ref b) false
theorem FoldIs.mono {L M : Lg} {n : Nat} {y : V} {b : Bool} (h : FoldIs L n y b) (s : ∀ p ∈ L, p ∈ M) : FoldIs M n y b := by
  cases h with
  | good hb hf => exact .good (s _ hb) hf
  | kind ht hn => exact .kind (ht.mono s) hn
  | item hb ht hl hx => exact .item (s _ hb) (fun x hx => by obtain ⟨T, h⟩ := ht x hx; exact ⟨T, h.mono s⟩) hl hx
  | order hb hr hl hn => exact .order (s _ hb) hr hl hn
def sp_check_folds (C_InvalidFoldsError : Addr) : Sp := fun vs H Q E => ∃ (a : Addr) (ns : List Int) (y : V) (g : Bool) (L : Lg), vs = [.ref a, y] ∧ Led H (L) ∧ ((a, .lst (ns.map V.int)) ∈ L) ∧ (FoldIs L ns.length y g) ∧ (ns.length ≤ 1000) ∧ ((g = true) → (Tr (L) (fun H => Q (.non) H))) ∧ ((g = false) → Tr (L) (fun H => E (.ref C_InvalidFoldsError) none H))
theorem use_check_folds {L : Lg} {Q : VK} {E : XK} {a : Addr} {ns : List Int} {y : V} {g : Bool} (hm : (a, .lst (ns.map V.int)) ∈ L) (hc : FoldIs L ns.length y g) (hl : ns.length ≤ 1000) (q : (g = true) → (Tr (L) (fun H => Q (.non) H))) (x0 : (g = false) → Tr (L) (fun H => E (.ref C_InvalidFoldsError) none H)) : Tr L fun H => sp_check_folds C_InvalidFoldsError [.ref a, y] H Q E :=
  fun H l => ⟨a, ns, y, g, L, rfl, l, hm, hc, hl, q, x0⟩

theorem ok_check_folds {C_InvalidFoldsError : Addr} (D : Df K mg "check_folds" s_check_folds) (B : Blt mg) (X_InvalidFoldsError : ExcC K mg "InvalidFoldsError" C_InvalidFoldsError) (k_is_integer : Ok P w K mg base CX0 1 "is_integer" ["value"] sp_is_integer) : Ok P w K mg base (L2.CX P w) 2 "check_folds" ["outline", "folds"] (sp_check_folds C_InvalidFoldsError) := by
  obtain ⟨f, fd, hm, F⟩ := D
  refine ⟨f, fd, hm, F.kp, F.binds (fun _ _ _ _ _ _ us hl => match us, hl with | [_, _], _ => rfl), FunOkG F sc_check_folds (fun vs H Q E h => ?_) (fun cdv A outer s H vs Q E hr h => ?_), F.lk⟩
  · obtain ⟨_, _, _, _, _, rfl, _⟩ := h; rfl
  obtain ⟨a, ns, y, g, L, rfl, l, hm, hc, hl, q, x0⟩ := h
  refine ⟨_, (pss_cons (ps_set (i := 2) sc_check_folds.nd rfl (.inl rfl) (pe_and (pe_callB c_is rfl B.isinstance_ boot_isinstance (pa_cons (pv 1) (pa_cons (pe_ty B.list_ boot_list) pa_nil))) (pe_one (pe_callB (cr_all rfl) rfl B.all_ boot_all (pa_cons (pe_lc (own := [("line", 3)]) (g := gName 3) (by rfl) sc_check_folds.nd (pi_list (pv 1)) (blkOk_by (own := [("line", 3)]) (N := ["outline", "folds", "is_valid", "line", "following"]) (sc := defScope s_check_folds) (by decide +kernel)) (fun _ _ _ _ _ => (pg_name (i := 3) sc_check_folds.nd rfl (.inl rfl))) (fun _ _ _ _ _ => pts_nil) (fun _ _ _ _ _ => (pe_and (pe_callG k_is_integer (hr.mono (by omega)) pas0 (pa_cons (pv 3) pa_nil)) (pe_one (pe_chain op_le op_lt pe_int (pv 3) (pe_callB (show CallR _ (.builtin "len") (rLen K) from c_len) rfl B.len_ boot_len (pa_cons (pv 0) pa_nil))))))) pa_nil)))))
      (pss_one (ps_if (PW.pt (pw_or (pt_not (pt_val (pv 2))) (pw_or1 (pt_not (pt_val (pe_callB (cr_all rfl) rfl B.all_ boot_all (pa_cons (pe_lc (own := [("line", 3), ("following", 4)]) (g := gTup _ 2 (gCons (gName 3) (gCons (gName 4) (gNil)))) (by rfl) sc_check_folds.nd (pi_zipA (by rfl) B.zip_ (pa_cons (pv 1) (pa_cons (pe_slice sl_list (pv 1) (po_some pe_int) po_none) pa_nil))) (blkOk_by (own := [("line", 3), ("following", 4)]) (N := ["outline", "folds", "is_valid", "line", "following"]) (sc := defScope s_check_folds) (by decide +kernel)) (fun _ _ _ _ _ => (pg_tup rfl (pgs_cons (pg_name (i := 3) sc_check_folds.nd rfl (.inl rfl)) (pgs_cons (pg_name (i := 4) sc_check_folds.nd rfl (.inl rfl)) pgs_nil)))) (fun _ _ _ _ _ => pts_nil) (fun _ _ _ _ _ => (pe_cmpR op_lt (pv 3) (pv 4) (nomark _)))) pa_nil))))))) (pss_one (ps_raise rfl (takes_of rfl rfl rfl rfl) (pe_mk X_InvalidFoldsError)))
        pss_nil))), ?_⟩
  rw [show L2.start ["outline", "folds", "is_valid", "line", "following"] [.ref a, y] = [some (.ref a), some y, none, none, none] from rfl]
  refine Tr.of ?_ l
  obtain ⟨R_hm, P_hm⟩ := Pick.of_mem hm
  repeat walk_at "hz"
  rcases (show (∃ b ms, y = .ref b ∧ (b, HO.lst (ms.map V.int)) ∈ L ∧ (∀ m : Int, m ∈ ms → 0 ≤ m ∧ m < ns.length) ∧ ms.length ≤ 1000 ∧ nextL ms = g) ∨ (g = false ∧ ((∃ T, HasTy L y T ∧ T ≠ "list") ∨ ∃ b xs, y = .ref b ∧ (b, HO.lst xs) ∈ L ∧ (∀ x ∈ xs, ∃ T, HasTy L x T) ∧ xs.length ≤ 1000 ∧ ∃ x ∈ xs, rgV ns.length x = false)) by
    cases hc with
    | good hb hf => exact .inl ⟨_, _, rfl, hb, hf.rg, by have := hf.len; omega, nextL_asc hf.asc⟩
    | order hb hr hl hn => exact .inl ⟨_, _, rfl, hb, hr, hl, hn⟩
    | kind ht hn => exact .inr ⟨rfl, .inl ⟨_, ht, hn⟩⟩
    | item hb ht hl hx => exact .inr ⟨rfl, .inr ⟨_, _, rfl, hb, ht, hl, hx⟩⟩) with ⟨b, ms, rfl, hb, rg, ml, hn⟩ | ⟨rfl, ⟨T, ht, hn⟩ | ⟨b, xs, rfl, hb, ht, hl2, hx⟩⟩
  · obtain ⟨R, hp⟩ := Pick.of_mem hm
    obtain ⟨R', hp'⟩ := Pick.of_mem hb
    refine t_is (.lst hb) (by decide) ?_
    repeat walk_at "hz"
    refine t_lcMap (wk_list (xs := ms.map V.int)) (by rfl) ((List.replicate ms.length true).map V.bl) (by simp) (fun x => ⟨_, (by walk_at "pk")⟩) ?_ ?_
    · rintro D i v L' hi ⟨hv, rfl⟩
      obtain ⟨x, hx, rfl⟩ := map_get hv
      have xb := rg x (List.mem_of_getElem? hx)
      rw [List.nil_append]
      repeat walk_at "hz"
      refine use_is_integer (.int x) ?_
      repeat walk_at "hz"
      rw [show decide (x < (ns.length : Int)) = true from decide_eq_true (by omega)]
      refine t_lcMp (by walk_at "pk") ?_ (by rw [sizeLine_eq]; simp; omega) (by walk_at "sb")
      rw [List.map_replicate, List.getElem?_replicate, if_pos (by simpa using hi)]
    intro D
    repeat walk_at "hz"
    refine t_all .head ?_
    rw [show (List.replicate ms.length true).all id = true by simp]
    repeat walk_at "hz"
    rw [cutI_after (by decide), show (1 : Int).toNat = 1 from rfl]
    repeat walk_at "hz"
    refine t_lcMap (wk_zip (xs := ms.map V.int) (ys := (ms.drop 1).map V.int)) (by rfl) (((List.range (min ms.length (ms.drop 1).length)).map fun i => decide (atD ms (i : Nat) < atD (ms.drop 1) (i : Nat))).map V.bl) (by simp) (fun x => ⟨⟨_, (by walk_at "pk")⟩, ⟨_, (by walk_at "pk")⟩⟩) ?_ ?_
    · rintro D2 i v L' hi2 ⟨T, xv, yv, rfl, hxv, hyv, rfl⟩
      obtain ⟨x, hx, rfl⟩ := map_get hxv
      obtain ⟨y, hy, rfl⟩ := map_get hyv
      rw [List.length_map, List.length_map] at hi2
      rw [List.cons_append, List.nil_append]
      repeat walk_at "hz"
      refine t_lcMp (by walk_at "pk") ?_ (by rw [sizeLine_eq]; simp; omega) (by walk_at "sb")
      rw [List.getElem?_map, List.getElem?_map, List.getElem?_range hi2]
      simp only [Option.map_some]
      rw [atD_nat hx, atD_nat hy]
    intro D2
    repeat walk_at "hz"
    refine t_all .head ?_
    rw [nextL_at, hn]
    cases g with
    | true =>
      repeat walk_at "hz"
      exact (q rfl).sub (by walk_at "sb")
    | false =>
      repeat walk_at "hz"
      exact (x0 rfl).sub (by walk_at "sb")
  · refine t_is ht (by decide) ?_
    rw [isB_list ht.name hn]
    repeat walk_at "hz"
    exact x0 rfl
  · obtain ⟨R, hp⟩ := Pick.of_mem hm
    obtain ⟨R', hp'⟩ := Pick.of_mem hb
    refine t_is (.lst hb) (by decide) ?_
    repeat walk_at "hz"
    refine t_lcMap (wk_list (xs := xs)) (by rfl) ((xs.map (rgV ns.length)).map V.bl) (by simp) (fun x => ⟨_, (by walk_at "pk")⟩) ?_ ?_
    · rintro D i v L' hi ⟨hv, rfl⟩
      obtain ⟨T, hT⟩ := ht v (List.mem_of_getElem? hv)
      rw [List.nil_append]
      repeat walk_at "hz"
      refine use_is_integer (hT.mono fun p h => List.mem_cons_of_mem _ h) ?_
      repeat walk_at "hz"
      by_cases c : isInt v = true
      · obtain ⟨n, rfl⟩ : ∃ n, v = .int n := by cases v <;> first | exact ⟨_, rfl⟩ | cases c
        rw [c]
        repeat walk_at "hz"
        refine t_iteD (fun h1 => ?_) fun h1 => ?_
        · repeat walk_at "hz"
          refine t_lcMp (by walk_at "pk") ?_ (by rw [sizeLine_eq]; simp; omega) (by walk_at "sb")
          rw [List.getElem?_map, List.getElem?_map, hv]
          simp only [Option.map_some]
          rw [rgV_int, decide_eq_true h1]; rfl
        · repeat walk_at "hz"
          refine t_lcMp (by walk_at "pk") ?_ (by rw [sizeLine_eq]; simp; omega) (by walk_at "sb")
          rw [List.getElem?_map, List.getElem?_map, hv]
          simp only [Option.map_some]
          rw [rgV_int, decide_eq_false h1]; rfl
      · have c2 : isInt v = false := by simpa using c
        rw [c2]
        repeat walk_at "hz"
        refine t_lcMp (by walk_at "pk") ?_ (by rw [sizeLine_eq]; simp; omega) (by walk_at "sb")
        rw [List.getElem?_map, List.getElem?_map, hv]
        simp only [Option.map_some]
        rw [rgV_not c2]
    intro D
    repeat walk_at "hz"
    refine t_all .head ?_
    rw [show (xs.map (rgV ns.length)).all id = false by
      rw [List.all_map, Bool.eq_false_iff]
      intro h
      obtain ⟨x, m, e⟩ := hx
      have := List.all_eq_true.mp h x m
      simp only [Function.comp_apply, id] at this
      rw [e] at this
      cases this]
    repeat walk_at "hz"
    exact (x0 rfl).sub (by walk_at "sb")
def sp_left_by  : Sp := fun vs H Q E => ∃ (a b : Addr) (ns ms : List Int) (L : Lg), vs = [.ref a, .ref b] ∧ Led H (L) ∧ ((a, .lst (ns.map V.int)) ∈ L) ∧ ((b, .lst (ms.map V.int)) ∈ L) ∧ (ns.length ≤ 1000) ∧ (ms.length ≤ 1000) ∧ (∀ i ∈ ms, 0 ≤ i) ∧ ∀ (p : Addr), Tr ((p, .lst ((leftU (atD ns) ms ns.length).map V.int)) :: L) (fun H => Q (.ref p) H)
theorem use_left_by {L : Lg} {Q : VK} {E : XK} {a b : Addr} {ns ms : List Int} (hm : (a, .lst (ns.map V.int)) ∈ L) (hb : (b, .lst (ms.map V.int)) ∈ L) (hl : ns.length ≤ 1000) (hl2 : ms.length ≤ 1000) (h0 : ∀ i ∈ ms, 0 ≤ i) (q : ∀ (p : Addr), Tr ((p, .lst ((leftU (atD ns) ms ns.length).map V.int)) :: L) (fun H => Q (.ref p) H)) : Tr L fun H => sp_left_by [.ref a, .ref b] H Q E :=
  fun H l => ⟨a, b, ns, ms, L, rfl, l, hm, hb, hl, hl2, h0, q⟩

theorem ok_left_by (D : Df K mg "left_by" s_left_by) (B : Blt mg) (k_last_of_section : Ok P w K mg base CX0 1 "last_of_section" ["outline", "line"] sp_last_of_section) : Ok P w K mg base CX0 2 "left_by" ["outline", "folds"] sp_left_by := by
  obtain ⟨f, fd, hm, F⟩ := D
  refine ⟨f, fd, hm, F.kp, F.binds (fun _ _ _ _ _ _ us hl => match us, hl with | [_, _], _ => rfl), FunOkG F sc_left_by (fun vs H Q E h => ?_) (fun cdv A outer s H vs Q E hr h => ?_), F.lk⟩
  · obtain ⟨_, _, _, _, _, rfl, _⟩ := h; rfl
  obtain ⟨a, b, ns, ms, L, rfl, l, hm, hb, hl, hl2, h0, q⟩ := h
  refine ⟨_, PSs.nox (pss_cons (ps_setDc (i := 2) (own := [("line", 3)]) (g := gName 3) (by rfl) sc_left_by.nd rfl rfl (sw_trueD rfl rfl rfl (by decide +kernel)) (pi_list (pv 1)) (blkOk_by (own := [("line", 3)]) (N := ["outline", "folds", "is_folded", "line", "found"]) (sc := defScope s_left_by) (by decide +kernel)) (fun _ _ _ _ _ => (pg_name (i := 3) sc_left_by.nd rfl (.inl rfl))) (fun _ _ _ _ _ => pts_nil) (fun _ _ _ _ _ => (pv 3)) (fun _ _ _ _ _ => pe_bl))
      (pss_cons (ps_set (i := 4) sc_left_by.nd rfl (.inl rfl) (pe_lst pa_nil))
      (pss_cons (ps_set (i := 3) sc_left_by.nd rfl (.inl rfl) pe_int)
      (pss_cons (ps_while PassesOwn.never (pt_cmpR op_lt (pv 3) (pe_callB c_len rfl B.len_ boot_len (pa_cons (pv 0) pa_nil)) (nomark _))
        (pss_cons (ps_expr (pe_bm PySem.F.plainAttrs_list PySem.F.slot_list_append PySem.F.type_list_append mt_append (pv 4) (pa_cons (pv 3) pa_nil)))
      (pss_one (ps_set (i := 3) sc_left_by.nd rfl (.inl rfl) (pe_ifExp (pt_cmp (pc_din hr.u1 (pv 3) (pv 2))) (pe_op op_add (pe_callG k_last_of_section (hr.mono (by omega)) pas0 (pa_cons (pv 0) (pa_cons (pv 3) pa_nil))) pe_int) (pe_op op_add (pv 3) pe_int))))))
      (pss_one (ps_ret (pv 4))))))), ?_⟩
  rw [show L2.start ["outline", "folds", "is_folded", "line", "found"] [.ref a, .ref b] = [some (.ref a), some (.ref b), none, none, none] from rfl]
  refine Tr.of ?_ l
  obtain ⟨R_hm, P_hm⟩ := Pick.of_mem hm
  obtain ⟨R_hb, P_hb⟩ := Pick.of_mem hb
  repeat walk_at "hz"
  obtain ⟨R, hp⟩ := Pick.of_mem hm
  obtain ⟨R', hp'⟩ := Pick.of_mem hb
  repeat walk_at "hz"
  refine t_dcK (wk_list (xs := ms.map V.int)) (by rfl) L (fun i kvs => kvs.length ≤ i ∧ ∀ k, (dv kvs k).isSome = decide (k ∈ ms.take i)) (by walk_at "sb") ⟨Nat.le_refl _, fun k => by rw [List.take_zero]; rfl⟩ (fun x => ⟨_, (by walk_at "pk")⟩) ?_ ?_
  · rintro D i kvs v L' hi ⟨kl, hk⟩ ⟨hv, rfl⟩
    obtain ⟨x, hx, rfl⟩ := map_get hv
    rw [List.length_map] at hi
    rw [List.nil_append]
    repeat walk_at "hz"
    refine t_dcAdd (by walk_at "pk") (by rw [sizeLine_eq]; omega) ⟨Nat.le_trans (length_putK _ _ _) (by omega), fun k => ?_⟩ (by walk_at "sb")
    rw [dv_put, take_more hx]
    by_cases c : k = x
    · rw [if_pos c]
      exact (decide_eq_true (by simp [c])).symm
    · rw [if_neg c, hk]
      exact decide_eq_decide.mpr (by simp [c])
  rintro D kvs ⟨kl, hk⟩
  rw [List.length_map, List.take_length] at hk
  repeat walk_at "hz"
  rename_i p0
  refine t_whG (fun (x : Int) => [some (.ref a), some (.ref b), some (.ref D), some (.int x), some (.ref p0)]) (fun (x : Int) => (p0, .lst ((leftU (atD ns) ms x).map V.int)) :: (D, .dK kvs) :: L) (fun (x : Int) => 0 ≤ x ∧ x ≤ ns.length ∧ (x < ns.length → ¬ Hid (atD ns) ms x)) (fun (x : Int) => (ns.length - x).toNat) ⟨0, ⟨Int.le_refl _, by omega, fun _ ⟨i, im, il, _⟩ => by have := h0 i im; omega⟩, rfl, (by walk_at "sb")⟩ ?_
  rintro x ⟨x0, x1, hx⟩
  try dsimp only at x0 x1 hx ⊢
  have ll := leftU_len (atD ns) ms x
  repeat walk_at "hz"
  refine t_whB (fun c => ?_) fun c => ?_
  · have nh := hx c
    repeat walk_at "hz"
    rw [hk]
    refine t_iteD (fun g => ?_) fun g => ?_
    · repeat walk_at "hz"
      refine use_last_of_section (by walk_at "mb") x0 c fun e he => ?_
      have lo := he.lo
      have hi := he.hi
      have st := leftU_step x0 lo nh fun k k0 k1 => ⟨x, g, k0, fun j a b => he.deep j a (by omega)⟩
      repeat walk_at "hz"
      rw [← st]
      refine t_whl (e + 1) ⟨by omega, by omega, fun h => hid_after nh he h⟩ (by (try dsimp only); omega) rfl (by walk_at "sb")
    · repeat walk_at "hz"
      have st := leftU_step x0 (Int.le_refl x) nh fun k k0 k1 => by omega
      rw [← st]
      refine t_whl (x + 1) ⟨by omega, by omega, fun _ => hid_next nh g⟩ (by (try dsimp only); omega) rfl (by walk_at "sb")
  · obtain rfl : x = ns.length := by omega
    repeat walk_at "hz"
    exact (q _).sub (by walk_at "sb")
def sp_lines_left (C_InvalidFoldsError C_InvalidOutlineError : Addr) : Sp := fun vs H Q E => ∃ (x y : V) (b g : Bool) (L : Lg), vs = [x, y] ∧ Led H (L) ∧ (OutIs L x b) ∧ (b = true → ∃ a ns, x = .ref a ∧ (a, HO.lst (ns.map V.int)) ∈ L ∧ Outline ns ∧ FoldIs L ns.length y g) ∧ ((b = true ∧ g = true) → (∀ (p : Addr) (ns ms : List Int), (b = true → ∃ a, x = .ref a ∧ (a, HO.lst (ns.map V.int)) ∈ L ∧ ns.length ≤ 200) → Tr ((p, .lst ((leftU (atD ns) ms ns.length).map V.int)) :: L) (fun H => Q (.ref p) H))) ∧ ((b = false) → Tr (L) (fun H => E (.ref C_InvalidOutlineError) none H)) ∧ ((b = true ∧ g = false) → Tr (L) (fun H => E (.ref C_InvalidFoldsError) none H))
theorem use_lines_left {L : Lg} {Q : VK} {E : XK} {x y : V} {b g : Bool} (ho : OutIs L x b) (hg : b = true → ∃ a ns, x = .ref a ∧ (a, HO.lst (ns.map V.int)) ∈ L ∧ Outline ns ∧ FoldIs L ns.length y g) (q : (b = true ∧ g = true) → (∀ (p : Addr) (ns ms : List Int), (b = true → ∃ a, x = .ref a ∧ (a, HO.lst (ns.map V.int)) ∈ L ∧ ns.length ≤ 200) → Tr ((p, .lst ((leftU (atD ns) ms ns.length).map V.int)) :: L) (fun H => Q (.ref p) H))) (x0 : (b = false) → Tr (L) (fun H => E (.ref C_InvalidOutlineError) none H)) (x1 : (b = true ∧ g = false) → Tr (L) (fun H => E (.ref C_InvalidFoldsError) none H)) : Tr L fun H => sp_lines_left C_InvalidFoldsError C_InvalidOutlineError [x, y] H Q E :=
  fun H l => ⟨x, y, b, g, L, rfl, l, ho, hg, q, x0, x1⟩

theorem ok_lines_left {C_InvalidFoldsError C_InvalidOutlineError : Addr} (D : Df K mg "lines_left" s_lines_left) (B : Blt mg) (k_check_outline : Ok P w K mg base (L2.CX P w) 3 "check_outline" ["outline"] (sp_check_outline C_InvalidOutlineError)) (k_check_folds : Ok P w K mg base (L2.CX P w) 2 "check_folds" ["outline", "folds"] (sp_check_folds C_InvalidFoldsError)) (k_left_by : Ok P w K mg base CX0 2 "left_by" ["outline", "folds"] sp_left_by) : Ok P w K mg base (L2.CX P w) 4 "lines_left" ["outline", "folds"] (sp_lines_left C_InvalidFoldsError C_InvalidOutlineError) := by
  obtain ⟨f, fd, hm, F⟩ := D
  refine ⟨f, fd, hm, F.kp, F.binds (fun _ _ _ _ _ _ us hl => match us, hl with | [_, _], _ => rfl), FunOkG F sc_lines_left (fun vs H Q E h => ?_) (fun cdv A outer s H vs Q E hr h => ?_), F.lk⟩
  · obtain ⟨_, _, _, _, _, rfl, _⟩ := h; rfl
  obtain ⟨x, y, b, g, L, rfl, l, ho, hg, q, x0, x1⟩ := h
  refine ⟨_, (pss_cons (ps_expr (pe_callG k_check_outline (hr.mono (by omega)) (fun σ => passAt (takes_of rfl rfl rfl rfl) σ) (pa_cons (pv 0) pa_nil)))
      (pss_cons (ps_expr (pe_callG k_check_folds (hr.mono (by omega)) (fun σ => passAt (takes_of rfl rfl rfl rfl) σ) (pa_cons (pv 0) (pa_cons (pv 1) pa_nil))))
      (PSs.nox (pss_one (ps_ret (pe_callG k_left_by (hr.mono (by omega)) pas0 (pa_cons (pv 0) (pa_cons (pv 1) pa_nil)))))))), ?_⟩
  rw [show L2.start ["outline", "folds"] [x, y] = [some x, some y] from rfl]
  refine Tr.of ?_ l
  repeat walk_at "hz"
  refine use_check_outline ho (fun e1 => ?_) x0
  obtain ⟨a, ns, rfl, hm, hout, hf⟩ := hg e1
  have hl := hout.len
  repeat walk_at "hz"
  refine use_check_folds hm hf (by omega) (fun e2 => ?_) fun e2 => x1 ⟨e1, e2⟩
  subst e2
  cases hf with
  | good hb hf =>
    have ml := hf.len
    repeat walk_at "hz"
    exact use_left_by hm hb (by omega) (by omega) (fun i hi => (hf.rg i hi).1) fun p => q ⟨e1, rfl⟩ p ns _ fun _ => ⟨a, rfl, hm, hl.2⟩
def sp_folded_outline (C_InvalidFoldsError C_InvalidOutlineError : Addr) : Sp := fun vs H Q E => ∃ (x y : V) (b g : Bool) (L : Lg), vs = [x, y] ∧ Led H (L) ∧ (OutIs L x b) ∧ (b = true → ∃ a ns, x = .ref a ∧ (a, HO.lst (ns.map V.int)) ∈ L ∧ Outline ns ∧ FoldIs L ns.length y g) ∧ ((b = true ∧ g = true) → (∀ (z : V) (N : Lg), Tr ((N ++ L)) (fun H => Q (z) H))) ∧ ((b = false) → Tr (L) (fun H => E (.ref C_InvalidOutlineError) none H)) ∧ ((b = true ∧ g = false) → Tr (L) (fun H => E (.ref C_InvalidFoldsError) none H))
theorem use_folded_outline {L : Lg} {Q : VK} {E : XK} {x y : V} {b g : Bool} (ho : OutIs L x b) (hg : b = true → ∃ a ns, x = .ref a ∧ (a, HO.lst (ns.map V.int)) ∈ L ∧ Outline ns ∧ FoldIs L ns.length y g) (q : (b = true ∧ g = true) → (∀ (z : V) (N : Lg), Tr ((N ++ L)) (fun H => Q (z) H))) (x0 : (b = false) → Tr (L) (fun H => E (.ref C_InvalidOutlineError) none H)) (x1 : (b = true ∧ g = false) → Tr (L) (fun H => E (.ref C_InvalidFoldsError) none H)) : Tr L fun H => sp_folded_outline C_InvalidFoldsError C_InvalidOutlineError [x, y] H Q E :=
  fun H l => ⟨x, y, b, g, L, rfl, l, ho, hg, q, x0, x1⟩

theorem ok_folded_outline {C_InvalidFoldsError C_InvalidOutlineError : Addr} (D : Df K mg "folded_outline" s_folded_outline) (B : Blt mg) (k_lines_left : Ok P w K mg base (L2.CX P w) 4 "lines_left" ["outline", "folds"] (sp_lines_left C_InvalidFoldsError C_InvalidOutlineError)) : Ok P w K mg base (L2.CX P w) 5 "folded_outline" ["outline", "folds"] (sp_folded_outline C_InvalidFoldsError C_InvalidOutlineError) := by
  obtain ⟨f, fd, hm, F⟩ := D
  refine ⟨f, fd, hm, F.kp, F.binds (fun _ _ _ _ _ _ us hl => match us, hl with | [_, _], _ => rfl), FunOkG F sc_folded_outline (fun vs H Q E h => ?_) (fun cdv A outer s H vs Q E hr h => ?_), F.lk⟩
  · obtain ⟨_, _, _, _, _, rfl, _⟩ := h; rfl
  obtain ⟨x, y, b, g, L, rfl, l, ho, hg, q, x0, x1⟩ := h
  refine ⟨_, (pss_one (ps_ret (pe_lc (own := [("line", 2)]) (g := gName 2) (by rfl) sc_folded_outline.nd (by exact (pi_list (pe_callG k_lines_left (hr.mono (by omega)) (fun σ => passAt (takes_of rfl rfl rfl rfl) σ) (pa_cons (pv 0) (pa_cons (pv 1) pa_nil))))) (blkOk_by (own := [("line", 2)]) (N := ["outline", "folds", "line"]) (sc := defScope s_folded_outline) (by decide +kernel)) (fun _ _ _ _ _ => (pg_name (i := 2) sc_folded_outline.nd rfl (.inl rfl))) (fun _ _ _ _ _ => pts_nil) (fun _ _ _ _ _ => (pe_ix (show IxR _ (rIxL K) from ix_list) (pv 0) (pv 2) (fun _ _ => rfl)))))), ?_⟩
  rw [show L2.start ["outline", "folds", "line"] [x, y] = [some x, some y, none] from rfl]
  refine Tr.of ?_ l
  repeat walk_at "hz"
  refine use_lines_left ho hg (fun e p ns ms hx => ?_) x0 x1
  obtain ⟨a, rfl, hm, hl⟩ := hx e.1
  obtain ⟨R, hp⟩ := Pick.of_mem hm
  have ll := leftU_len (atD ns) ms ns.length
  repeat walk_at "hz"
  refine t_lcMap (wk_list (xs := (leftU (atD ns) ms ns.length).map V.int)) (by rfl) (((leftU (atD ns) ms ns.length).map (atD ns)).map V.int) (by simp) (fun x => ⟨_, (by walk_at "pk")⟩) ?_ ?_
  · rintro D i v L' hi ⟨hv, rfl⟩
    obtain ⟨x, hx, rfl⟩ := map_get hv
    have xr := rg_in.mp (List.mem_filter.mp (List.mem_of_getElem? hx)).1
    rw [List.nil_append]
    repeat walk_at "hz"
    exact t_lcMp (by walk_at "pk") (get_map _ (get_map _ hx)) (by rw [sizeLine_eq]; simp; omega) (by walk_at "sb")
  intro D
  repeat walk_at "hz"
  exact (q e (.ref D) [(D, _)]).sub (by walk_at "sb")

/-! ### lines of depth zero behind an outline -/
theorem chainI_zeros : ∀ (n : Nat) (b : Int), -1 ≤ b → chainI b (List.replicate n 0)
  | 0, _, _ => trivial
  | n + 1, b, h => ⟨by decide, by omega, chainI_zeros n 0 (by decide)⟩
theorem Outline.zeros {ns : List Int} (h : Outline ns) {k : Nat} (hk : 1 ≤ k) (hk2 : k ≤ 200) (m : Nat) : Outline ((ns ++ List.replicate m 0).take k) := by
  have hl := h.len
  have lb := lastD_bound (-1) ns h.chain hl.1
  refine outline_iff.mpr ⟨?_, ?_, chainI_take _ _ _ ((chainI_append _ _ _).mpr ⟨h.chain, chainI_zeros _ _ (by omega)⟩)⟩
  · rw [List.length_take, List.length_append]; omega
  · rw [List.length_take]; omega
theorem rgI_snoc (u : Nat) : rgI 0 ((u + 1 : Nat) : Int) = rgI 0 (u : Int) ++ [(u : Int)] := by
  unfold rgI
  rw [show (((u + 1 : Nat) : Int) - 0).toNat = u + 1 by omega, show ((u : Int) - 0).toNat = u by omega, List.range_succ, List.map_append, List.map_singleton, Int.zero_add]
theorem rgI_up {n : Int} (h : 0 ≤ n) : rgI 0 ((n.toNat : Nat) : Int) = rgI 0 n := by rw [Int.toNat_of_nonneg h]
theorem DtAll.rev {L : Lg} : ∀ {xs : List V} {ds : List PyData}, DtAll L xs ds → DtAll L xs.reverse ds.reverse
  | _, _, .nil => .nil
  | _, _, .cons h r => by rw [List.reverse_cons, List.reverse_cons]; exact r.rev.app (.cons h .nil)
theorem Prs.rev {L : Lg} {xs : List V} {ps : List (Int × Int)} (h : Prs L xs ps) : Prs L xs.reverse ps.reverse := by
  unfold Prs
  rw [List.map_reverse]
  exact DtAll.rev h
theorem Outline.topEx' {ns : List Int} (h : Outline ns) {s : Int} (hs : s ≤ ns.length - 1 - lastD (-1) ns) : ∃ t, TopIs (atD ns) ns.length s t := by
  obtain ⟨k, k0, k1, k2⟩ := h.top hs
  have key : ∀ m : Nat, (∃ k : Int, 0 ≤ k ∧ k < ns.length ∧ s ≤ k - atD ns k ∧ k < m) → ∃ t, TopIs (atD ns) ns.length s t := by
    intro m
    induction m with
    | zero => rintro ⟨k, a, b, c, d⟩; omega
    | succ m ih =>
      rintro ⟨k, a, b, c, d⟩
      by_cases e : ∃ k : Int, 0 ≤ k ∧ k < ns.length ∧ s ≤ k - atD ns k ∧ k < m
      · exact ih e
      · refine ⟨k, a, b, c, fun j j0 j1 => ?_⟩
        by_cases g : s ≤ j - atD ns j
        · exact absurd ⟨j, j0, by omega, g, by omega⟩ e
        · omega
  exact key (k.toNat + 1) ⟨k, k0, k1, k2, by omega⟩

/-! ### the greatest sections between two lines -/
def An (f : Int → Int) (i k : Int) : Prop := i < k ∧ ∀ j, i < j → j ≤ k → f i < f j
inductive SW (f : Int → Int) (n last : Int) : Int → List (Int × Int) → Prop where
  | done {x : Int} : last ≤ x → SW f n last x []
  | sec {x e : Int} {fs : List (Int × Int)} : x < last → SecEnd f n x e → e < last → SW f n last (e + 1) fs → SW f n last x ((e - x, x) :: fs)
  | inn {x e : Int} {fs : List (Int × Int)} : x < last → SecEnd f n x e → last ≤ e → SW f n last (x + 1) fs → SW f n last x fs
theorem SW.uniq {f : Int → Int} {n last x : Int} {fs gs : List (Int × Int)} (h : SW f n last x fs) : SW f n last x gs → fs = gs := by
  induction h generalizing gs with
  | done c => intro g; cases g with
    | done _ => rfl
    | sec c2 _ _ _ => omega
    | inn c2 _ _ _ => omega
  | sec c s l _ ih => intro g; cases g with
    | done c2 => omega
    | sec _ s2 _ r => obtain rfl := s.uniq s2; rw [ih r]
    | inn _ s2 l2 _ => obtain rfl := s.uniq s2; omega
  | inn c s l _ ih => intro g; cases g with
    | done c2 => omega
    | sec _ s2 l2 _ => obtain rfl := s.uniq s2; omega
    | inn _ s2 _ r => exact ih r
theorem secEnd_at (f : Int → Int) (n : Int) : ∀ (k : Nat) (x e : Int), (n - e).toNat ≤ k → x ≤ e → e < n → (∀ j, x < j → j ≤ e → f x < f j) → ∃ e', SecEnd f n x e' := fun k => by
  induction k with
  | zero => intro x e h1 h2 h3; omega
  | succ k ih =>
    intro x e h1 h2 h3 h4
    by_cases c : e + 1 < n ∧ f x < f (e + 1)
    · refine ih x (e + 1) (by omega) (by omega) c.1 fun j a b => ?_
      by_cases g : j = e + 1
      · rw [g]; exact c.2
      · exact h4 j a (by omega)
    · exact ⟨e, h2, h3, h4, fun g => by omega⟩
theorem secEnd_of (f : Int → Int) {n x : Int} (h : x < n) : ∃ e, SecEnd f n x e := secEnd_at f n _ x x (Nat.le_refl _) (Int.le_refl _) h fun j a b => by omega
theorem SW.ex (f : Int → Int) {n last : Int} (hl : last < n) : ∀ (k : Nat) (x : Int), (last - x).toNat ≤ k → ∃ fs, SW f n last x fs := fun k => by
  induction k with
  | zero => intro x h; exact ⟨[], .done (by omega)⟩
  | succ k ih =>
    intro x h
    by_cases c : x < last
    · obtain ⟨e, he⟩ := secEnd_of f (n := n) (x := x) (by omega)
      have lo := he.lo
      by_cases g : e < last
      · obtain ⟨fs, r⟩ := ih (e + 1) (by omega)
        exact ⟨_, .sec c he g r⟩
      · obtain ⟨fs, r⟩ := ih (x + 1) (by omega)
        exact ⟨_, .inn c he (by omega) r⟩
    · exact ⟨[], .done (by omega)⟩
theorem SW.mem {f : Int → Int} {n last x : Int} {fs : List (Int × Int)} (h : SW f n last x fs) : ∀ p ∈ fs, x ≤ p.2 ∧ 0 ≤ p.1 ∧ p.2 + p.1 < last ∧ SecEnd f n p.2 (p.2 + p.1) := by
  induction h with
  | done _ => exact fun p hp => nomatch hp
  | sec c s l r ih =>
    rename_i x e fs
    intro p hp
    have lo := s.lo
    rcases List.mem_cons.mp hp with rfl | hp
    · exact ⟨Int.le_refl _, by dsimp only; omega, by dsimp only; omega, by dsimp only; rw [show x + (e - x) = e by omega]; exact s⟩
    · obtain ⟨a, b, c, d⟩ := ih p hp
      exact ⟨by omega, b, c, d⟩
  | inn c s l r ih =>
    intro p hp
    obtain ⟨a, b, c, d⟩ := ih p hp
    exact ⟨by omega, b, c, d⟩
theorem SW.asc {f : Int → Int} {n last x : Int} {fs : List (Int × Int)} (h : SW f n last x fs) : fs.Pairwise fun p q => p.2 + p.1 < q.2 := by
  induction h with
  | done _ => exact .nil
  | sec c s l r ih => exact List.pairwise_cons.mpr ⟨fun q hq => by have := (r.mem q hq).1; dsimp only; omega, ih⟩
  | inn c s l r ih => exact ih
theorem SW.len {f : Int → Int} {n last x : Int} {fs : List (Int × Int)} (h : SW f n last x fs) : fs.length ≤ (last - x).toNat := by
  induction h with
  | done _ => simp
  | sec c s l r ih => have := s.lo; rw [List.length_cons]; omega
  | inn c s l r ih => omega
/-- which lines these are -/
theorem SW.top {f : Int → Int} {n last x : Int} {fs : List (Int × Int)} (h : SW f n last x fs) (hl : last < n) : ∀ t, t ∈ fs.map (·.2) ↔ x ≤ t ∧ t < last ∧ ¬ An f t last ∧ ∀ i, x ≤ i → An f i t → An f i last := by
  induction h with
  | done c => intro t; constructor
              · intro h; cases h
              · rintro ⟨a, b, -⟩; omega
  | sec c s l r ih =>
    rename_i x e fs
    intro t
    have lo := s.lo
    have st := s.stop (by omega)
    have low : ∀ i, x ≤ i → i ≤ e → f (e + 1) ≤ f i := fun i a b => by
      by_cases g : i = x
      · rw [g]; exact st
      · have := s.deep i (by omega) b; omega
    have nx : ¬ An f x last := fun h => by have := h.2 (e + 1) (by omega) (by omega); omega
    rw [List.map_cons, List.mem_cons, ih t]
    constructor
    · rintro (rfl | ⟨a1, a2, a3, a4⟩)
      · exact ⟨Int.le_refl _, c, nx, fun i a b => by have := b.1; omega⟩
      · refine ⟨by omega, a2, a3, fun i a b => ?_⟩
        by_cases g : e + 1 ≤ i
        · exact a4 i g b
        · have := b.2 (e + 1) (by omega) a1
          have := low i a (by omega)
          omega
    · rintro ⟨a1, a2, a3, a4⟩
      by_cases g : t = x
      · exact .inl g
      · refine .inr ⟨?_, a2, a3, fun i a b => a4 i (by omega) b⟩
        by_cases g2 : e + 1 ≤ t
        · exact g2
        · exact absurd (a4 x (Int.le_refl _) ⟨by omega, fun j b1 b2 => s.deep j b1 (by omega)⟩) nx
  | inn c s l r ih =>
    rename_i x e fs
    intro t
    have ax : An f x last := ⟨c, fun j a b => s.deep j a (by omega)⟩
    rw [ih t]
    constructor
    · rintro ⟨a1, a2, a3, a4⟩
      refine ⟨by omega, a2, a3, fun i a b => ?_⟩
      by_cases g : i = x
      · rw [g]; exact ax
      · exact a4 i (by omega) b
    · rintro ⟨a1, a2, a3, a4⟩
      refine ⟨?_, a2, a3, fun i a b => a4 i (by omega) b⟩
      by_cases g : t = x
      · rw [g] at a3; exact absurd ax a3
      · omega
/-- how many lines are hidden by these folds -/
def selS (M : List Int) : List (Int × Int) → Int
  | [] => 0
  | p :: r => (if p.2 ∈ M then p.1 else 0) + selS M r
theorem selS_perm {M : List Int} {l m : List (Int × Int)} (h : l.Perm m) : selS M l = selS M m := by
  induction h with
  | nil => rfl
  | cons x _ ih => rw [selS, selS, ih]
  | swap x y l => rw [selS, selS, selS, selS]; omega
  | trans _ _ ih1 ih2 => exact ih1.trans ih2
theorem selS_congr {M M' : List Int} : ∀ {l : List (Int × Int)}, (∀ p ∈ l, p.2 ∈ M ↔ p.2 ∈ M') → selS M l = selS M' l
  | [], _ => rfl
  | p :: r, h => by
    rw [selS, selS, selS_congr fun q hq => h q (.tail _ hq)]
    by_cases c : p.2 ∈ M
    · rw [if_pos c, if_pos ((h p (.head _)).mp c)]
    · rw [if_neg c, if_neg fun g => c ((h p (.head _)).mpr g)]
noncomputable def keptN (f : Int → Int) (M : List Int) (a b : Int) : Int := ((rgI a b).filter fun k => !hidB f M k).length
theorem keptN_app (f : Int → Int) (M : List Int) {a b c : Int} (h1 : a ≤ b) (h2 : b ≤ c) : keptN f M a c = keptN f M a b + keptN f M b c := by
  unfold keptN
  rw [rg_app h1 h2, List.filter_append, List.length_append]; omega
theorem keptN_one {f : Int → Int} {M : List Int} {a : Int} (h : ¬ Hid f M a) : keptN f M a (a + 1) = 1 := by
  unfold keptN
  rw [rg_one, List.filter_cons, hidB_no h]; rfl
theorem keptN_none {f : Int → Int} {M : List Int} {a b : Int} (h : ∀ k, a ≤ k → k < b → Hid f M k) : keptN f M a b = 0 := by
  unfold keptN
  rw [List.filter_eq_nil_iff.mpr fun k hk => by
    have := rg_in.mp hk
    rw [hidB_iff.mpr (h k this.1 this.2)]
    decide]
  rfl
theorem keptN_all {f : Int → Int} {M : List Int} {a b : Int} (h0 : a ≤ b) (h : ∀ k, a ≤ k → k < b → ¬ Hid f M k) : keptN f M a b = b - a := by
  unfold keptN
  rw [List.filter_eq_self.mpr fun k hk => by
    have := rg_in.mp hk
    rw [hidB_no (h k this.1 this.2)]
    decide, rgI_len]
  omega
theorem SW.kept {f : Int → Int} {n last x : Int} {fs : List (Int × Int)} (h : SW f n last x fs) (hl : last < n) {M : List Int} (hx : x ≤ last) (nh : ¬ Hid f M x) (hM : ∀ m ∈ M, x ≤ m → m < last → m ∈ fs.map (·.2)) :
    keptN f M x last = last - x - selS M fs ∧ ¬ Hid f M last := by
  induction h with
  | done c =>
    rename_i x
    obtain rfl : x = last := by omega
    refine ⟨?_, nh⟩
    rw [keptN_none fun k a b => by omega, selS]; omega
  | sec c s l r ih =>
    rename_i x e fs
    have lo := s.lo
    obtain ⟨i1, i2⟩ := ih (by omega) (hid_after nh s (by omega)) fun m hm a b => by
      rcases List.mem_cons.mp (hM m hm (by omega) b) with e1 | h
      · dsimp only at e1; omega
      · exact h
    refine ⟨?_, i2⟩
    rw [keptN_app f M (show x ≤ x + 1 by omega) (by omega), keptN_app f M (show x + 1 ≤ e + 1 by omega) (by omega), i1, keptN_one nh, selS]
    by_cases m : x ∈ M
    · rw [if_pos m, keptN_none fun k a b => ⟨x, m, by omega, fun j c1 c2 => s.deep j c1 (by omega)⟩]
      omega
    · have ka := keptN_all (f := f) (M := M) (a := x + 1) (b := e + 1) (by omega) fun k a b ⟨i, im, il, ij⟩ => ?_
      · rw [if_neg m, ka]; omega
      by_cases g : i < x
      · exact nh ⟨i, im, g, fun j c1 c2 => ij j c1 (by omega)⟩
      · rcases List.mem_cons.mp (hM i im (by omega) (by omega)) with e1 | h
        · dsimp only at e1
          rw [e1] at im
          exact m im
        · obtain ⟨p, hp, e1⟩ := List.mem_map.mp h
          have := (r.mem p hp).1
          omega
  | inn c s l r ih =>
    rename_i x e fs
    have nm : x ∉ M := fun h => by
      obtain ⟨p, hp, e1⟩ := List.mem_map.mp (hM x h (Int.le_refl _) c)
      have := (r.mem p hp).1
      omega
    obtain ⟨i1, i2⟩ := ih (by omega) (hid_next nh nm) fun m hm a b => hM m hm (by omega) b
    refine ⟨?_, i2⟩
    rw [keptN_app f M (show x ≤ x + 1 by omega) (by omega), i1, keptN_one nh]
    omega
/-! ### as few folds as possible -/
def grF : Int → List (Int × Int) → List Int
  | _, [] => []
  | m, p :: r => if 0 < m ∧ 0 < p.1 then p.2 :: grF (m - p.1) r else grF m r
def grM : Int → List (Int × Int) → Int
  | m, [] => m
  | m, p :: r => if 0 < m ∧ 0 < p.1 then grM (m - p.1) r else grM m r
theorem grF_mem : ∀ {m : Int} {qs : List (Int × Int)} {t : Int}, t ∈ grF m qs → t ∈ qs.map (·.2)
  | m, p :: r, t, h => by
    rw [grF] at h
    split at h
    · rcases List.mem_cons.mp h with rfl | h
      · exact .head _
      · exact .tail _ (grF_mem h)
    · exact .tail _ (grF_mem h)
theorem grF_nil {m : Int} (h : m ≤ 0) : ∀ qs : List (Int × Int), grF m qs = []
  | [] => rfl
  | p :: r => by rw [grF, if_neg (fun e => by omega), grF_nil h r]
theorem grM_nil {m : Int} (h : m ≤ 0) : ∀ qs : List (Int × Int), grM m qs = m
  | [] => rfl
  | p :: r => by rw [grM, if_neg (fun e => by omega), grM_nil h r]
theorem grF_len : ∀ (m : Int) (qs : List (Int × Int)), (grF m qs).length ≤ qs.length
  | _, [] => Nat.le_refl _
  | m, p :: r => by
    have := grF_len (m - p.1) r
    have := grF_len m r
    rw [grF]
    split <;> (simp only [List.length_cons]; omega)
theorem grF_nodup : ∀ {m : Int} {qs : List (Int × Int)}, (qs.map (·.2)).Nodup → (grF m qs).Nodup
  | _, [], _ => .nil
  | m, p :: r, h => by
    have h := List.nodup_cons.mp h
    rw [grF]
    split
    · exact List.nodup_cons.mpr ⟨fun g => h.1 (grF_mem g), grF_nodup h.2⟩
    · exact grF_nodup h.2
/-- the sum of the first ones -/
def frS (k : Nat) (qs : List (Int × Int)) : Int := ((qs.map (·.1)).take k).sum
theorem frS_zero (qs : List (Int × Int)) : frS 0 qs = 0 := rfl
theorem frS_nil (k : Nat) : frS k [] = 0 := by unfold frS; simp
theorem frS_cons (k : Nat) (p : Int × Int) (qs : List (Int × Int)) : frS (k + 1) (p :: qs) = p.1 + frS k qs := by
  unfold frS
  rw [List.map_cons, List.take_succ_cons, List.sum_cons]
theorem frS_pos {qs : List (Int × Int)} (h : ∀ p ∈ qs, 0 ≤ p.1) : ∀ k, 0 ≤ frS k qs := fun k => by
  induction qs generalizing k with
  | nil => rw [frS_nil]; decide
  | cons p r ih =>
    cases k with
    | zero => rw [frS_zero]; decide
    | succ k =>
      rw [frS_cons]
      have := ih (fun q hq => h q (.tail _ hq)) k
      have := h p (.head _)
      omega
theorem frS_all (qs : List (Int × Int)) {k : Nat} (h : qs.length ≤ k) : frS k qs = frS qs.length qs := by
  unfold frS
  rw [List.take_of_length_le (by rw [List.length_map]; exact h), List.take_of_length_le (by rw [List.length_map]; exact Nat.le_refl _)]
theorem gr_le : ∀ {qs : List (Int × Int)} {m : Int}, (∀ p ∈ qs, 0 ≤ p.1) → (grM m qs ≤ 0 ↔ m ≤ frS qs.length qs)
  | [], m, _ => by rw [grM, List.length_nil, frS_zero]
  | p :: r, m, h => by
    have hp := h p (.head _)
    have hr := fun q hq => h q (.tail _ hq)
    have s0 := frS_pos hr r.length
    rw [grM, List.length_cons, frS_cons]
    split
    · rw [gr_le hr]; omega
    · rename_i c
      rw [gr_le hr]
      omega
theorem gr_len : ∀ {qs : List (Int × Int)} {m : Int}, (∀ p ∈ qs, 0 ≤ p.1) → qs.Pairwise (fun a b => b.1 ≤ a.1) → grM m qs ≤ 0 → m ≤ frS (grF m qs).length qs ∧ ∀ k, m ≤ frS k qs → (grF m qs).length ≤ k
  | [], m, _, _, g => by
    rw [grM] at g
    rw [grF, List.length_nil, frS_zero]
    exact ⟨g, fun _ _ => Nat.zero_le _⟩
  | p :: r, m, h, d, g => by
    have hp := h p (.head _)
    have hr := fun q hq => h q (.tail _ hq)
    have d := List.pairwise_cons.mp d
    by_cases m0 : m ≤ 0
    · rw [grF_nil m0, List.length_nil, frS_zero]
      exact ⟨m0, fun _ _ => Nat.zero_le _⟩
    by_cases c : 0 < p.1
    · rw [grM, if_pos ⟨by omega, c⟩] at g
      obtain ⟨i1, i2⟩ := gr_len hr d.2 g
      rw [grF, if_pos ⟨by omega, c⟩, List.length_cons, frS_cons]
      refine ⟨by omega, fun k hk => ?_⟩
      cases k with
      | zero => rw [frS_zero] at hk; omega
      | succ k =>
        rw [frS_cons] at hk
        exact Nat.succ_le_succ (i2 k (by omega))
    · have z : ∀ q ∈ p :: r, q.1 = 0 := fun q hq => by
        rcases List.mem_cons.mp hq with rfl | hq
        · omega
        · have := d.1 q hq; have := hr q hq; omega
      have zs : ∀ (l : List (Int × Int)), (∀ q ∈ l, q.1 = 0) → ∀ k, frS k l = 0 := fun l => by
        induction l with
        | nil => intro _ k; exact frS_nil k
        | cons q l ih =>
          intro hz k
          cases k with
          | zero => rfl
          | succ k => rw [frS_cons, hz q (.head _), ih (fun x hx => hz x (.tail _ hx)) k]; rfl
      have := (gr_le h).mp g
      rw [zs _ z] at this
      omega
theorem gr_sum : ∀ {qs : List (Int × Int)} {m : Int}, (qs.map (·.2)).Nodup → selS (grF m qs) qs = m - grM m qs
  | [], m, _ => by rw [selS, grM]; omega
  | p :: r, m, h => by
    have h := List.nodup_cons.mp h
    rw [selS, grF, grM]
    split
    · rw [if_pos (.head _), selS_congr (M' := grF (m - p.1) r) fun q hq => ?_, gr_sum h.2]
      · omega
      · constructor
        · intro g
          rcases List.mem_cons.mp g with e | g
          · exact absurd (List.mem_map.mpr ⟨q, hq, e⟩) h.1
          · exact g
        · exact fun g => .tail _ g
    · rw [if_neg fun g => h.1 (grF_mem g), gr_sum h.2]; omega
theorem perm_uniq {α : Type} {R : α → α → Prop} (anti : ∀ a b, R a b → R b a → a = b) : ∀ {l m : List α}, l.Perm m → l.Pairwise R → m.Pairwise R → l = m
  | [], m, h, _, _ => by rw [List.nil_perm.mp h]
  | a :: l, [], h, _, _ => by simp at h
  | a :: l, b :: m, h, h1, h2 => by
    have g1 := List.pairwise_cons.mp h1
    have g2 := List.pairwise_cons.mp h2
    have e : a = b := by
      rcases List.mem_cons.mp (h.mem_iff.mp (.head _) : a ∈ b :: m) with e | ha
      · exact e
      · rcases List.mem_cons.mp (h.mem_iff.mpr (.head _) : b ∈ a :: l) with e | hb
        · exact e.symm
        · exact anti a b (g1.1 b hb) (g2.1 a ha)
    subst e
    rw [perm_uniq anti (List.perm_cons _ |>.mp h) g1.2 g2.2]
theorem lexLe_anti {a b : Int × Int} (h1 : lexLe a b) (h2 : lexLe b a) : a = b := by
  unfold lexLe at h1 h2
  exact Prod.ext (by omega) (by omega)
/-- what folds_to_show answers -/
def FT (ns : List Int) (h x y : Int) (r : Option (List Int)) : Prop := ∃ fs qs, SW (atD ns) ns.length (max x y) (min x y) fs ∧ qs.Perm fs ∧ qs.Pairwise (fun a b => lexLe b a) ∧
  ((grM (max x y - min x y + atD ns (min x y) - h + 1) qs ≤ 0 ∧ ∃ ms, r = some ms ∧ ms.Perm (grF (max x y - min x y + atD ns (min x y) - h + 1) qs) ∧ ms.Pairwise (· ≤ ·)) ∨ (0 < grM (max x y - min x y + atD ns (min x y) - h + 1) qs ∧ r = none))
theorem FT.uniq {ns : List Int} {h x y : Int} {r r' : Option (List Int)} (a : FT ns h x y r) (b : FT ns h x y r') : r = r' := by
  obtain ⟨fs, qs, a1, a2, a3, a4⟩ := a
  obtain ⟨gs, rs, b1, b2, b3, b4⟩ := b
  obtain rfl := a1.uniq b1
  obtain rfl := perm_uniq (R := fun a b => lexLe b a) (fun a b h1 h2 => lexLe_anti h2 h1) (a2.trans b2.symm) a3 b3
  rcases a4 with ⟨c1, ms, rfl, d1, d2⟩ | ⟨c1, rfl⟩
  · rcases b4 with ⟨e1, ms', rfl, f1, f2⟩ | ⟨e1, rfl⟩
    · rw [perm_uniq (R := (· ≤ ·)) (fun a b h1 h2 => Int.le_antisymm h1 h2) (d1.trans f1.symm) d2 f2]
    · omega
  · rcases b4 with ⟨e1, ms', rfl, f1, f2⟩ | ⟨e1, rfl⟩
    · omega
    · rfl
theorem FT.swap {ns : List Int} {h x y : Int} {r : Option (List Int)} (a : FT ns h x y r) : FT ns h y x r := by
  unfold FT at a ⊢
  rw [Int.max_comm, Int.min_comm] at a
  exact a
inductive FtV (ns : List Int) (h x y : Int) : V → Lg → Prop where
  | no {N : Lg} : FT ns h x y none → FtV ns h x y .non N
  | yes {p : Addr} {ms : List Int} {N : Lg} : FT ns h x y (some ms) → FtV ns h x y (.ref p) ((p, .lst (ms.map V.int)) :: N)
def optV : Option (List Int) → V
  | none => .non
  | some ms => .int ms.length
theorem Prs.keep {M L : Lg} (s : ∀ t xs, (t, HO.tup xs) ∈ M → (t, HO.tup xs) ∈ L) : ∀ {ys : List V} {qs : List (Int × Int)}, Prs M ys qs → Prs L ys qs
  | _, [], h => by
    have := h.len
    rw [List.length_eq_zero_iff.mp (this.trans rfl)]
    exact .nil
  | ys, q :: qs, h => by
    unfold Prs at h ⊢
    rw [List.map_cons] at h ⊢
    cases h with
    | cons h1 h2 =>
      obtain ⟨T, rfl, m⟩ := Dt.inv h1
      exact .cons (.pr (s _ _ m)) (Prs.keep s (qs := qs) h2)

/-! ### the fewest folds -/
def sp_sections_between  : Sp := fun vs H Q E => ∃ (a : Addr) (ns : List Int) (x y : Int) (L : Lg), vs = [.ref a, .int x, .int y] ∧ Led H (L) ∧ ((a, .lst (ns.map V.int)) ∈ L) ∧ (Outline ns) ∧ (0 ≤ x) ∧ (y < ns.length) ∧ ∀ (p : Addr) (us : List V) (fs : List (Int × Int)) (N : Lg), (SW (atD ns) ns.length y x fs) → (Prs N us fs) → Tr ((p, .lst us) :: (N ++ L)) (fun H => Q (.ref p) H)
theorem use_sections_between {L : Lg} {Q : VK} {E : XK} {a : Addr} {ns : List Int} {x y : Int} (hm : (a, .lst (ns.map V.int)) ∈ L) (ho : Outline ns) (h0 : 0 ≤ x) (h1 : y < ns.length) (q : ∀ (p : Addr) (us : List V) (fs : List (Int × Int)) (N : Lg), (SW (atD ns) ns.length y x fs) → (Prs N us fs) → Tr ((p, .lst us) :: (N ++ L)) (fun H => Q (.ref p) H)) : Tr L fun H => sp_sections_between [.ref a, .int x, .int y] H Q E :=
  fun H l => ⟨a, ns, x, y, L, rfl, l, hm, ho, h0, h1, q⟩

theorem ok_sections_between (D : Df K mg "sections_between" s_sections_between) (B : Blt mg) (k_last_of_section : Ok P w K mg base CX0 1 "last_of_section" ["outline", "line"] sp_last_of_section) : Ok P w K mg base CX0 2 "sections_between" ["outline", "first", "last"] sp_sections_between := by
  obtain ⟨f, fd, hm, F⟩ := D
  refine ⟨f, fd, hm, F.kp, F.binds (fun _ _ _ _ _ _ us hl => match us, hl with | [_, _, _], _ => rfl), FunOkG F sc_sections_between (fun vs H Q E h => ?_) (fun cdv A outer s H vs Q E hr h => ?_), F.lk⟩
  · obtain ⟨_, _, _, _, _, rfl, _⟩ := h; rfl
  obtain ⟨a, ns, x, y, L, rfl, l, hm, ho, h0, h1, q⟩ := h
  refine ⟨_, PSs.nox (pss_cons (ps_set (i := 3) sc_sections_between.nd rfl (.inl rfl) (pe_lst pa_nil))
      (pss_cons (ps_set (i := 4) sc_sections_between.nd rfl (.inl rfl) (pv 1))
      (pss_cons (ps_while PassesOwn.never (pt_cmpR op_lt (pv 4) (pv 2) (nomark _))
        (pss_cons (ps_set (i := 5) sc_sections_between.nd rfl (.inl rfl) (pe_callG k_last_of_section (hr.mono (by omega)) pas0 (pa_cons (pv 0) (pa_cons (pv 4) pa_nil))))
      (pss_one (ps_if (pt_cmpR op_lt (pv 5) (pv 2) (nomark _)) (pss_cons (ps_expr (pe_bm PySem.F.plainAttrs_list PySem.F.slot_list_append PySem.F.type_list_append mt_append (pv 3) (pa_cons (pe_tup (pa_cons (pe_op op_sub (pv 5) (pv 4)) (pa_cons (pv 4) pa_nil))) pa_nil)))
      (pss_one (ps_set (i := 4) sc_sections_between.nd rfl (.inl rfl) (pe_op op_add (pv 5) pe_int))))
        (pss_one (ps_aug (i := 4) sc_sections_between.nd rfl (.inl rfl) pe_int ip_add))))))
      (pss_one (ps_ret (pv 3)))))), ?_⟩
  rw [show L2.start ["outline", "first", "last", "found", "line", "end"] [.ref a, .int x, .int y] = [some (.ref a), some (.int x), some (.int y), none, none, none] from rfl]
  refine Tr.of ?_ l
  obtain ⟨R_hm, P_hm⟩ := Pick.of_mem hm
  repeat walk_at "hz"
  have hl := ho.len
  obtain ⟨R, hp⟩ := Pick.of_mem hm
  repeat walk_at "hz"
  rename_i p0
  refine t_whG (fun ((c, us, fs, N, j5) : Int × (List V) × (List (Int × Int)) × Lg × Option V) => [some (.ref a), some (.int x), some (.int y), some (.ref p0), some (.int c), j5]) (fun ((c, us, fs, N, j5) : Int × (List V) × (List (Int × Int)) × Lg × Option V) => (p0, .lst us) :: (N ++ L)) (fun ((c, us, fs, N, j5) : Int × (List V) × (List (Int × Int)) × Lg × Option V) => Prs N us fs ∧ x ≤ c ∧ us.length ≤ (c - x).toNat ∧ ∀ gs, SW (atD ns) ns.length y c gs → SW (atD ns) ns.length y x (fs ++ gs)) (fun ((c, us, fs, N, j5) : Int × (List V) × (List (Int × Int)) × Lg × Option V) => (y - c).toNat) ⟨(x, [], [], [], _), ⟨.nil, Int.le_refl _, by simp, fun gs h => h⟩, rfl, (by walk_at "sb")⟩ ?_
  rintro ⟨c, us, fs, N, j5⟩ ⟨i1, i2, i3, i4⟩
  try dsimp only at i1 i2 i3 i4 ⊢
  repeat walk_at "hz"
  refine t_whB (fun g => ?_) fun g => ?_
  · repeat walk_at "hz"
    refine use_last_of_section (by walk_at "mb") (by omega) (by omega) fun e he => ?_
    have lo := he.lo
    repeat walk_at "hz"
    refine t_iteD (fun k => ?_) fun k => ?_
    · repeat walk_at "hz"
      rename_i pt
      refine t_whl (e + 1, us ++ [.ref pt], fs ++ [(e - c, c)], (pt, .tup [.int (e - c), .int c]) :: N, _) ⟨(i1.mono fun _ h => .tail _ h).snoc (.head _), by omega, (by (try dsimp only); (try simp only [List.length_append, List.length_cons, List.length_nil, List.length_map, List.length_singleton]); omega), fun gs h => by rw [List.append_assoc]; exact i4 _ (.sec g he k h)⟩ (by (try dsimp only); omega) rfl (by walk_at "sb")
    · repeat walk_at "hz"
      refine t_whl (c + 1, us, fs, N, _) ⟨i1, by omega, by dsimp only; omega, fun gs h => i4 _ (.inn g he (by omega) h)⟩ (by (try dsimp only); omega) rfl (by walk_at "sb")
  · repeat walk_at "hz"
    have := i4 [] (.done (by omega))
    rw [List.append_nil] at this
    exact (q p0 us fs N this i1).sub (by walk_at "sb")
inductive KF : V → Lg → Prop where
  | no : KF .non []
  | yes (p : Addr) (ms : List Int) : KF (.ref p) [(p, .lst (ms.map V.int))]
def sp_folds_to_show (C_InvalidHeightError C_InvalidLineError C_InvalidOutlineError : Addr) : Sp := fun vs H Q E => ∃ (v0 v1 v2 v3 : V) (T1 T2 T3 : String) (b0 b2 b3 : Bool) (L : Lg), vs = [v0, v1, v2, v3] ∧ Led H (L) ∧ (OutIs L v0 b0) ∧ (HasTy L v1 T1) ∧ (HasTy L v2 T2) ∧ (HasTy L v3 T3) ∧ (b0 = true → ∃ a ns, v0 = .ref a ∧ (a, HO.lst (ns.map V.int)) ∈ L ∧ Outline ns ∧ rgV ns.length v2 = b2 ∧ rgV ns.length v3 = b3) ∧ ((b0 = true ∧ htV v1 = true ∧ b2 = true ∧ b3 = true) → (∀ (v : V) (N : Lg), (KF v N) → Tr ((N ++ L)) (fun H => Q (v) H))) ∧ ((b0 = false) → Tr (L) (fun H => E (.ref C_InvalidOutlineError) none H)) ∧ ((b0 = true ∧ htV v1 = false) → Tr (L) (fun H => E (.ref C_InvalidHeightError) none H)) ∧ ((b0 = true ∧ htV v1 = true ∧ (b2 = false ∨ b3 = false)) → Tr (L) (fun H => E (.ref C_InvalidLineError) none H))
theorem use_folds_to_show {L : Lg} {Q : VK} {E : XK} {v0 v1 v2 v3 : V} {T1 T2 T3 : String} {b0 b2 b3 : Bool} (hv0 : OutIs L v0 b0) (ht1 : HasTy L v1 T1) (ht2 : HasTy L v2 T2) (ht3 : HasTy L v3 T3) (hg : b0 = true → ∃ a ns, v0 = .ref a ∧ (a, HO.lst (ns.map V.int)) ∈ L ∧ Outline ns ∧ rgV ns.length v2 = b2 ∧ rgV ns.length v3 = b3) (q : (b0 = true ∧ htV v1 = true ∧ b2 = true ∧ b3 = true) → (∀ (v : V) (N : Lg), (KF v N) → Tr ((N ++ L)) (fun H => Q (v) H))) (x0 : (b0 = false) → Tr (L) (fun H => E (.ref C_InvalidOutlineError) none H)) (x1 : (b0 = true ∧ htV v1 = false) → Tr (L) (fun H => E (.ref C_InvalidHeightError) none H)) (x2 : (b0 = true ∧ htV v1 = true ∧ (b2 = false ∨ b3 = false)) → Tr (L) (fun H => E (.ref C_InvalidLineError) none H)) : Tr L fun H => sp_folds_to_show C_InvalidHeightError C_InvalidLineError C_InvalidOutlineError [v0, v1, v2, v3] H Q E :=
  fun H l => ⟨v0, v1, v2, v3, T1, T2, T3, b0, b2, b3, L, rfl, l, hv0, ht1, ht2, ht3, hg, q, x0, x1, x2⟩

theorem ok_folds_to_show {C_InvalidHeightError C_InvalidLineError C_InvalidOutlineError : Addr} (D : Df K mg "folds_to_show" s_folds_to_show) (B : Blt mg) (k_check_outline : Ok P w K mg base (L2.CX P w) 3 "check_outline" ["outline"] (sp_check_outline C_InvalidOutlineError)) (k_check_line : Ok P w K mg base (L2.CX P w) 2 "check_line" ["outline", "line"] (sp_check_line C_InvalidLineError)) (k_check_height : Ok P w K mg base (L2.CX P w) 2 "check_height" ["height"] (sp_check_height C_InvalidHeightError)) (k_sections_between : Ok P w K mg base CX0 2 "sections_between" ["outline", "first", "last"] sp_sections_between) : Ok P w K mg base (L2.CX P w) 4 "folds_to_show" ["outline", "height", "line", "other"] (sp_folds_to_show C_InvalidHeightError C_InvalidLineError C_InvalidOutlineError) := by
  obtain ⟨f, fd, hm, F⟩ := D
  refine ⟨f, fd, hm, F.kp, F.binds (fun _ _ _ _ _ _ us hl => match us, hl with | [_, _, _, _], _ => rfl), FunOkG F sc_folds_to_show (fun vs H Q E h => ?_) (fun cdv A outer s H vs Q E hr h => ?_), F.lk⟩
  · obtain ⟨_, _, _, _, _, _, _, _, _, _, _, rfl, _⟩ := h; rfl
  obtain ⟨v0, v1, v2, v3, T1, T2, T3, b0, b2, b3, L, rfl, l, hv0, ht1, ht2, ht3, hg, q, x0, x1, x2⟩ := h
  refine ⟨_, (pss_cons (ps_expr (pe_callG k_check_outline (hr.mono (by omega)) (fun σ => passAt (takes_of rfl rfl rfl rfl) σ) (pa_cons (pv 0) pa_nil)))
      (pss_cons (ps_expr (pe_callG k_check_height (hr.mono (by omega)) (fun σ => passAt (takes_of rfl rfl rfl rfl) σ) (pa_cons (pv 1) pa_nil)))
      (pss_cons (ps_expr (pe_callG k_check_line (hr.mono (by omega)) (fun σ => passAt (takes_of rfl rfl rfl rfl) σ) (pa_cons (pv 0) (pa_cons (pv 2) pa_nil))))
      (pss_cons (ps_expr (pe_callG k_check_line (hr.mono (by omega)) (fun σ => passAt (takes_of rfl rfl rfl rfl) σ) (pa_cons (pv 0) (pa_cons (pv 3) pa_nil))))
      (PSs.nox (pss_cons (ps_par (i := 4) (j := 5) (by rfl) sc_folds_to_show.nd rfl rfl (by decide) rfl rfl (pa_cons (pe_callB (c_min2 rfl) rfl B.min_ boot_min (pa_cons (pv 2) (pa_cons (pv 3) pa_nil))) (pa_cons (pe_callB (c_max2 rfl) rfl B.max_ boot_max (pa_cons (pv 2) (pa_cons (pv 3) pa_nil))) pa_nil)) (by rfl))
      (pss_cons (ps_set (i := 6) sc_folds_to_show.nd rfl (.inl rfl) (pe_op op_add (pe_op op_sub (pe_op op_add (pe_op op_sub (pv 5) (pv 4)) (pe_ix ix_list (pv 0) (pv 4) (fun _ _ => rfl))) (pv 1)) pe_int))
      (pss_cons (ps_set (i := 7) sc_folds_to_show.nd rfl (.inl rfl) (pe_lst pa_nil))
      (pss_cons (ps_for PassesOwn.never rfl (pi_list (pe_revL (pe_callB cr_sortedPO rfl B.sorted_ boot_sorted (pa_cons (pe_callG k_sections_between (hr.mono (by omega)) pas0 (pa_cons (pv 0) (pa_cons (pv 4) (pa_cons (pv 5) pa_nil)))) pa_nil)))) (pg_tup rfl (pgs_cons (pg_name (i := 8) sc_folds_to_show.nd rfl (.inl rfl)) (pgs_cons (pg_name (i := 9) sc_folds_to_show.nd rfl (.inl rfl)) pgs_nil)))
        (pss_one (ps_if (PW.pt (pw_and (pt_cmpR op_gt (pv 6) pe_int (nomark _)) (pw_and1 (pt_cmpR op_gt (pv 8) pe_int (nomark _))))) (pss_cons (ps_expr (pe_bm PySem.F.plainAttrs_list PySem.F.slot_list_append PySem.F.type_list_append mt_append (pv 7) (pa_cons (pv 9) pa_nil)))
      (pss_one (ps_aug (i := 6) sc_folds_to_show.nd rfl (.inl rfl) (pv 8) ip_sub)))
        pss_nil)))
      (pss_one (ps_ret (pe_ifExp (pt_cmpR op_le (pv 6) pe_int (nomark _)) (pe_callB cr_sortedI rfl B.sorted_ boot_sorted (pa_cons (pv 7) pa_nil)) pe_non)))))))))))), ?_⟩
  rw [show L2.start ["outline", "height", "line", "other", "first", "last", "missing", "folds", "hidden", "folded"] [v0, v1, v2, v3] = [some v0, some v1, some v2, some v3, none, none, none, none, none, none] from rfl]
  refine Tr.of ?_ l
  repeat walk_at "hz"
  refine use_check_outline hv0 (fun e0 => ?_) x0
  obtain ⟨a, ns, rfl, hm, ho, rfl, rfl⟩ := hg e0
  repeat walk_at "hz"
  refine use_check_height ht1 (fun e1 => ?_) (fun e1 => x1 ⟨e0, e1⟩)
  repeat walk_at "hz"
  refine use_check_line hm ht2 (fun e2 => ?_) (fun e2 => x2 ⟨e0, e1, .inl e2⟩)
  repeat walk_at "hz"
  refine use_check_line hm ht3 (fun e3 => ?_) (fun e3 => x2 ⟨e0, e1, .inr e3⟩)
  have q0 := q ⟨e0, e1, e2, e3⟩
  obtain ⟨h, rfl⟩ : ∃ h, v1 = .int h := by cases v1 <;> first | exact ⟨_, rfl⟩ | cases e1
  obtain ⟨x, rfl⟩ : ∃ x, v2 = .int x := by cases v2 <;> first | exact ⟨_, rfl⟩ | cases e2
  obtain ⟨y, rfl⟩ : ∃ y, v3 = .int y := by cases v3 <;> first | exact ⟨_, rfl⟩ | cases e3
  rw [htV_int, Bool.and_eq_true, decide_eq_true_eq, decide_eq_true_eq] at e1
  rw [rgV_int, Bool.and_eq_true, decide_eq_true_eq, decide_eq_true_eq] at e2 e3
  obtain ⟨h0, h1⟩ := e1
  obtain ⟨xl, xh⟩ := e2
  obtain ⟨yl, yh⟩ := e3
  have hl := ho.len
  obtain ⟨R, hp⟩ := Pick.of_mem hm
  repeat walk_at "hz"
  rename_i p0
  refine use_sections_between (by walk_at "mb") ho (by omega) (by omega) fun p1 us fs N hs hx => ?_
  have fl0 := hs.len
  have ul := hx.len
  repeat walk_at "hz"
  refine t_sortP (by walk_at "pk") (hx.mono fun q h => by simp [h]) fun ys qs p2 hy pm srt => ?_
  have yl := hy.len
  have pl := pm.length_eq
  repeat walk_at "hz"
  have hr : Prs (N ++ L) ys.reverse qs.reverse := (hy.keep fun t zs h => by simpa using h).rev
  rename_i p3
  have srt2 : qs.reverse.Pairwise (fun a b => lexLe b a) := List.pairwise_reverse.mpr srt
  have pm2 : qs.reverse.Perm fs := (List.reverse_perm qs).trans pm
  have rl : qs.reverse.length ≤ 400 := by rw [List.length_reverse]; omega
  have yr : ys.reverse.length = qs.reverse.length := by rw [List.length_reverse, List.length_reverse, yl]
  generalize ys.reverse = zs at hr yr ⊢
  generalize qs.reverse = rs at hr srt2 pm2 rl yr
  clear hy srt pm yl pl
  obtain ⟨M0, hM0⟩ : ∃ M0, M0 = max x y - min x y + atD ns (min x y) - h + 1 := ⟨_, rfl⟩
  rw [← hM0]
  refine t_forK (wk_list (xs := zs)) (fun t ((gl, m, j8, j9) : (List Int) × Int × Option V × Option V) => [some (.ref a), some (.int h), some (.int x), some (.int y), some (.int (min x y)), some (.int (max x y)), some (.int m), some (.ref p0), j8, j9]) (fun t ((gl, m, j8, j9) : (List Int) × Int × Option V × Option V) => (p0, .lst (gl.map V.int)) :: (p3, .lst zs) :: (N ++ L)) (fun t ((gl, m, j8, j9) : (List Int) × Int × Option V × Option V) => grF M0 rs = gl ++ grF m (rs.drop t) ∧ grM M0 rs = grM m (rs.drop t) ∧ gl.length ≤ t) ⟨([], M0, _, _), ⟨rfl, rfl, Nat.le_refl _⟩, rfl, (by walk_at "sb")⟩ (fun _ _ _ => ⟨_, (by walk_at "pk")⟩) ?_ ?_
  · rintro t ⟨gl, m, j8, j9⟩ v L' ht ⟨i1, i2, i3⟩ ⟨hv, rfl⟩
    try dsimp only at i1 i2 i3 ⊢
    simp only [List.nil_append, List.cons_append]
    obtain ⟨T, p, rfl, he, mm⟩ := hr.at hv
    obtain ⟨R3, hp3⟩ := Pick.of_mem mm
    have dr : rs.drop t = p :: rs.drop (t + 1) := by
      obtain ⟨hlt, e⟩ := List.getElem?_eq_some_iff.mp he
      rw [List.drop_eq_getElem_cons hlt, e]
    rw [dr] at i1 i2
    rw [grF] at i1
    rw [grM] at i2
    repeat walk_at "hz"
    refine t_iteD (fun c1 => ?_) fun c1 => ?_
    · repeat walk_at "hz"
      refine t_iteD (fun c2 => ?_) fun c2 => ?_
      · rw [if_pos ⟨c1, c2⟩] at i1 i2
        repeat walk_at "hz"
        refine t_pst (gl ++ [p.2], m - p.1, _, _) ⟨by rw [i1, List.append_assoc]; rfl, i2, (by (try dsimp only); (try simp only [List.length_append, List.length_cons, List.length_nil, List.length_map, List.length_singleton]); omega)⟩ rfl (by walk_at "sb")
      · rw [if_neg (fun e => c2 e.2)] at i1 i2
        repeat walk_at "hz"
        refine t_pst (gl, m, _, _) ⟨i1, i2, by dsimp only; omega⟩ rfl (by walk_at "sb")
    · rw [if_neg (fun e => c1 e.1)] at i1 i2
      repeat walk_at "hz"
      refine t_pst (gl, m, _, _) ⟨i1, i2, by dsimp only; omega⟩ rfl (by walk_at "sb")
  · rintro ⟨gl, m, j8, j9⟩ ⟨i1, i2, i3⟩
    try dsimp only at i1 i2 i3 ⊢
    rw [yr, List.drop_length, grF, List.append_nil] at i1
    rw [yr, List.drop_length, grM] at i2
    repeat walk_at "hz"
    refine t_iteD (fun c => ?_) fun c => ?_
    · repeat walk_at "hz"
      refine t_sortI (by walk_at "pk") fun ms p4 h1 h2 => ?_
      repeat walk_at "hz"
      exact (q0 (.ref p4) _ (.yes p4 ms)).sub (by walk_at "sb")
    · repeat walk_at "hz"
      exact (q0 .non [] .no).sub (by walk_at "sb")
def sp_fewest_folds (C_InvalidHeightError C_InvalidLineError C_InvalidOutlineError : Addr) : Sp := fun vs H Q E => ∃ (v0 v1 v2 v3 : V) (T1 T2 T3 : String) (b0 b2 b3 : Bool) (L : Lg), vs = [v0, v1, v2, v3] ∧ Led H (L) ∧ (OutIs L v0 b0) ∧ (HasTy L v1 T1) ∧ (HasTy L v2 T2) ∧ (HasTy L v3 T3) ∧ (b0 = true → ∃ a ns, v0 = .ref a ∧ (a, HO.lst (ns.map V.int)) ∈ L ∧ Outline ns ∧ rgV ns.length v2 = b2 ∧ rgV ns.length v3 = b3) ∧ ((b0 = true ∧ htV v1 = true ∧ b2 = true ∧ b3 = true) → (∀ (z : V), Tr (L) (fun H => Q (z) H))) ∧ ((b0 = false) → Tr (L) (fun H => E (.ref C_InvalidOutlineError) none H)) ∧ ((b0 = true ∧ htV v1 = false) → Tr (L) (fun H => E (.ref C_InvalidHeightError) none H)) ∧ ((b0 = true ∧ htV v1 = true ∧ (b2 = false ∨ b3 = false)) → Tr (L) (fun H => E (.ref C_InvalidLineError) none H))
theorem use_fewest_folds {L : Lg} {Q : VK} {E : XK} {v0 v1 v2 v3 : V} {T1 T2 T3 : String} {b0 b2 b3 : Bool} (hv0 : OutIs L v0 b0) (ht1 : HasTy L v1 T1) (ht2 : HasTy L v2 T2) (ht3 : HasTy L v3 T3) (hg : b0 = true → ∃ a ns, v0 = .ref a ∧ (a, HO.lst (ns.map V.int)) ∈ L ∧ Outline ns ∧ rgV ns.length v2 = b2 ∧ rgV ns.length v3 = b3) (q : (b0 = true ∧ htV v1 = true ∧ b2 = true ∧ b3 = true) → (∀ (z : V), Tr (L) (fun H => Q (z) H))) (x0 : (b0 = false) → Tr (L) (fun H => E (.ref C_InvalidOutlineError) none H)) (x1 : (b0 = true ∧ htV v1 = false) → Tr (L) (fun H => E (.ref C_InvalidHeightError) none H)) (x2 : (b0 = true ∧ htV v1 = true ∧ (b2 = false ∨ b3 = false)) → Tr (L) (fun H => E (.ref C_InvalidLineError) none H)) : Tr L fun H => sp_fewest_folds C_InvalidHeightError C_InvalidLineError C_InvalidOutlineError [v0, v1, v2, v3] H Q E :=
  fun H l => ⟨v0, v1, v2, v3, T1, T2, T3, b0, b2, b3, L, rfl, l, hv0, ht1, ht2, ht3, hg, q, x0, x1, x2⟩

theorem ok_fewest_folds {C_InvalidHeightError C_InvalidLineError C_InvalidOutlineError : Addr} (D : Df K mg "fewest_folds" s_fewest_folds) (B : Blt mg) (k_folds_to_show : Ok P w K mg base (L2.CX P w) 4 "folds_to_show" ["outline", "height", "line", "other"] (sp_folds_to_show C_InvalidHeightError C_InvalidLineError C_InvalidOutlineError)) : Ok P w K mg base (L2.CX P w) 5 "fewest_folds" ["outline", "height", "line", "other"] (sp_fewest_folds C_InvalidHeightError C_InvalidLineError C_InvalidOutlineError) := by
  obtain ⟨f, fd, hm, F⟩ := D
  refine ⟨f, fd, hm, F.kp, F.binds (fun _ _ _ _ _ _ us hl => match us, hl with | [_, _, _, _], _ => rfl), FunOkG F sc_fewest_folds (fun vs H Q E h => ?_) (fun cdv A outer s H vs Q E hr h => ?_), F.lk⟩
  · obtain ⟨_, _, _, _, _, _, _, _, _, _, _, rfl, _⟩ := h; rfl
  obtain ⟨v0, v1, v2, v3, T1, T2, T3, b0, b2, b3, L, rfl, l, hv0, ht1, ht2, ht3, hg, q, x0, x1, x2⟩ := h
  refine ⟨_, (pss_cons (ps_set (i := 4) sc_fewest_folds.nd rfl (.inl rfl) (pe_callG k_folds_to_show (hr.mono (by omega)) (fun σ => passAt (takes_of rfl rfl rfl rfl) σ) (pa_cons (pv 0) (pa_cons (pv 1) (pa_cons (pv 2) (pa_cons (pv 3) pa_nil))))))
      (PSs.nox (pss_one (ps_ret (pe_ifExp (pt_cmpR op_isN1 (pv 4) pe_non (nomark _)) pe_non (pe_callB c_len rfl B.len_ boot_len (pa_cons (pv 4) pa_nil))))))), ?_⟩
  rw [show L2.start ["outline", "height", "line", "other", "folds"] [v0, v1, v2, v3] = [some v0, some v1, some v2, some v3, none] from rfl]
  refine Tr.of ?_ l
  repeat walk_at "hz"
  refine use_folds_to_show hv0 ht1 ht2 ht3 hg (fun e v N hv => ?_) x0 x1 x2
  cases hv with
  | no =>
    repeat walk_at "hz"
    exact (q e _).sub (by walk_at "sb")
  | yes p ms =>
    repeat walk_at "hz"
    exact (q e _).sub (by walk_at "sb")

/-! ### the law's own folds -/
def Anc (f : Int → Int) (k x : Int) : Prop := 0 ≤ x ∧ x < k ∧ ∀ j, x < j → j ≤ k → f x < f j
def sp_law_places  : Sp := fun vs H Q E => ∃ (a b : Addr) (ns : List Int) (odds : Int) (m : Nat) (o : HO) (L : Lg), vs = [.ref a, .ref b, .int odds] ∧ Led H ((a, o) :: L) ∧ ((b, .lst (ns.map V.int)) ∈ L) ∧ (ns.length ≤ 200) ∧ (1 ≤ odds) ∧ (odds ≤ 1000) ∧ (Bag m o) ∧ (m ≤ 100000) ∧ ∀ (p : Addr) (ms : List Int) (o' : HO), (FoldsOk ns.length ms) → (Bag (m + 200) o') → Tr ((p, .lst (ms.map V.int)) :: (a, o') :: L) (fun H => Q (.ref p) H)
theorem use_law_places {L0  L : Lg} {Q : VK} {E : XK} {a b : Addr} {ns : List Int} {odds : Int} {m : Nat} {o : HO} (hp0 : Pick (a) (o) L0 L) (hm : (b, .lst (ns.map V.int)) ∈ L) (hl : ns.length ≤ 200) (h0 : 1 ≤ odds) (h1 : odds ≤ 1000) (hs : Bag m o) (hn : m ≤ 100000) (q : ∀ (p : Addr) (ms : List Int) (o' : HO), (FoldsOk ns.length ms) → (Bag (m + 200) o') → Tr ((p, .lst (ms.map V.int)) :: (a, o') :: L) (fun H => Q (.ref p) H)) : Tr L0 fun H => sp_law_places [.ref a, .ref b, .int odds] H Q E :=
  fun H l => ⟨a, b, ns, odds, m, o, L, rfl, l.pick hp0, hm, hl, h0, h1, hs, hn, q⟩

theorem ok_law_places (D : Df K mg "_law_places" s_law_places) (B : Blt mg) (k__law_draw : Ok P w K mg base CX0 1 "_law_draw" ["bag", "many"] sp_law_draw) : Ok P w K mg base CX0 2 "_law_places" ["bag", "depths", "odds"] sp_law_places := by
  obtain ⟨f, fd, hm, F⟩ := D
  refine ⟨f, fd, hm, F.kp, F.binds (fun _ _ _ _ _ _ us hl => match us, hl with | [_, _, _], _ => rfl), FunOkG F sc_law_places (fun vs H Q E h => ?_) (fun cdv A outer s H vs Q E hr h => ?_), F.lk⟩
  · obtain ⟨_, _, _, _, _, _, _, rfl, _⟩ := h; rfl
  obtain ⟨a, b, ns, odds, m, o, L, rfl, l, hm, hl, h0, h1, hs, hn, q⟩ := h
  refine ⟨_, PSs.nox (pss_one (ps_ret (pe_lc (own := [("spot", 3)]) (g := gName 3) (by rfl) sc_law_places.nd (pi_range1 rfl B.range_ (pa_cons (pe_callB c_len rfl B.len_ boot_len (pa_cons (pv 1) pa_nil)) pa_nil)) (blkOk_by (own := [("spot", 3)]) (N := ["bag", "depths", "odds", "spot"]) (sc := defScope s_law_places) (by decide +kernel)) (fun _ _ _ _ _ => (pg_name (i := 3) sc_law_places.nd rfl (.inl rfl))) (fun _ _ _ _ _ => (pts_one (pt_cmpR op_eq (pe_callG k__law_draw (hr.mono (by omega)) pas0 (pa_cons (pv 0) (pa_cons (pv 2) pa_nil))) pe_int (nomark _)))) (fun _ _ _ _ _ => (pv 3))))), ?_⟩
  rw [show L2.start ["bag", "depths", "odds", "spot"] [.ref a, .ref b, .int odds] = [some (.ref a), some (.ref b), some (.int odds), none] from rfl]
  refine Tr.of ?_ l
  obtain ⟨R_hm, P_hm⟩ := Pick.of_mem hm
  repeat walk_at "hz"
  obtain ⟨R, hp⟩ := Pick.of_mem hm
  repeat walk_at "hz"
  refine t_lcK (wk_range) (by rfl) (fun i (y : List Int × HO) => (a, y.2) :: L) (fun i y => y.1.map V.int) (fun i y => y.1.Pairwise (· < ·) ∧ (∀ z ∈ y.1, 0 ≤ z ∧ z < (i : Int)) ∧ y.1.length ≤ i ∧ Bag (m + i) y.2) ⟨([], o), ⟨List.Pairwise.nil, (fun _ h => nomatch h), Nat.le_refl _, hs⟩, rfl, (by walk_at "sb")⟩ (fun D i y _ => trivial) ?_ ?_
  · rintro D i ⟨ms, o1⟩ v L' hi ⟨asc, rg, ml, hs⟩ ⟨rfl, rfl⟩
    dsimp only at asc rg ml hs ⊢
    rw [List.nil_append, Int.zero_add]
    repeat walk_at "hz"
    refine use_law_draw (by walk_at "pk") hs (by omega) (by omega) (by omega) fun e o_e el eh hs => ?_
    repeat walk_at "hz"
    refine t_iteD (fun c => ?_) fun c => ?_
    · repeat walk_at "hz"
      refine t_lcAdd (ms ++ [(i : Int)], o_e) ⟨List.pairwise_append.mpr ⟨asc, List.pairwise_singleton _ _, fun x hx y hy => by rw [List.mem_singleton.mp hy]; exact (rg x hx).2⟩, fun z hz => ?_, by simp; omega, hs⟩ (by walk_at "pk") (by rw [sizeLine_eq, List.length_map]; omega) (by rw [List.map_append]; rfl) (by walk_at "sb")
      rcases List.mem_append.mp hz with hz | hz
      · have := rg z hz; omega
      · rw [List.mem_singleton.mp hz]; omega
    · repeat walk_at "hz"
      exact t_lcSkip (ms, o_e) ⟨asc, fun z hz => by have := rg z hz; omega, by dsimp only; omega, hs⟩ (by walk_at "sb")
  · rintro D ⟨ms, o1⟩ ⟨asc, rg, ml, hs⟩
    dsimp only at asc rg ml hs ⊢
    rw [show ((ns.length : Int)).toNat = ns.length by omega] at rg hs
    exact (q D ms o1 ⟨asc, fun z hz => rg z hz⟩ (hs.le (by omega))).sub (by walk_at "sb")
theorem fl_getD (ms : List Int) (f : Int → Bool) : fl (fun u => f (ms.getD u default)) (fun u => ms.getD u default) ms.length = ms.filter f := by
  unfold fl
  have e : ms = (List.range ms.length).map fun u => ms.getD u default := by
    refine List.ext_getElem? fun i => ?_
    rw [List.getElem?_map]
    by_cases c : i < ms.length
    · rw [List.getElem?_range c, List.getElem?_eq_getElem c]
      show _ = some (ms.getD i default)
      rw [List.getD_eq_getElem?_getD, List.getElem?_eq_getElem c]
      rfl
    · rw [List.getElem?_eq_none (by omega), List.getElem?_eq_none (by simp; omega)]
      rfl
  conv => rhs; rw [e]
  rw [List.filter_map]
  rfl

/-- a small number -/
theorem sz_small {i : Int} (h : i.natAbs < 2 ^ 110) : Sz 1000 2 (.int i) := (Sz.int 110 (by decide) (by decide) h).le (by decide) (by decide)
theorem sz_depths {ns : List Int} (ho : Outline ns) : ∀ n ∈ ns, n.natAbs < 2 ^ 30 := fun n hn => by
  obtain ⟨i, hi⟩ := List.mem_iff_getElem?.mp hn
  have := ho.bound hi
  have := (List.getElem?_eq_some_iff.mp hi).1
  have := ho.len
  omega
def sp_law_no_outline  : Sp := fun vs H Q E => ∃ (a b : Addr) (ns : List Int) (m : Nat) (o : HO) (L : Lg), vs = [.ref a, .ref b] ∧ Led H ((a, o) :: L) ∧ ((b, .lst (ns.map V.int)) ∈ L) ∧ (Outline ns) ∧ (Bag m o) ∧ (m ≤ 100000000) ∧ ∀ (x : V) (d : PyData) (N : Lg) (o' : HO), (Dv (N ++ L) x d) → (Sz 2000000 5 d) → (outD d = false) → (Bag (m + 3) o') → Tr ((a, o') :: (N ++ L)) (fun H => Q (x) H)
theorem use_law_no_outline {L0  L : Lg} {Q : VK} {E : XK} {a b : Addr} {ns : List Int} {m : Nat} {o : HO} (hp0 : Pick (a) (o) L0 L) (hm : (b, .lst (ns.map V.int)) ∈ L) (ho : Outline ns) (hs : Bag m o) (hn : m ≤ 100000000) (q : ∀ (x : V) (d : PyData) (N : Lg) (o' : HO), (Dv (N ++ L) x d) → (Sz 2000000 5 d) → (outD d = false) → (Bag (m + 3) o') → Tr ((a, o') :: (N ++ L)) (fun H => Q (x) H)) : Tr L0 fun H => sp_law_no_outline [.ref a, .ref b] H Q E :=
  fun H l => ⟨a, b, ns, m, o, L, rfl, l.pick hp0, hm, ho, hs, hn, q⟩

theorem ok_law_no_outline (D : Df K mg "_law_no_outline" s_law_no_outline) (B : Blt mg) (k__law_draw : Ok P w K mg base CX0 1 "_law_draw" ["bag", "many"] sp_law_draw) : Ok P w K mg base CX0 2 "_law_no_outline" ["bag", "depths"] sp_law_no_outline := by
  obtain ⟨f, fd, hm, F⟩ := D
  refine ⟨f, fd, hm, F.kp, F.binds (fun _ _ _ _ _ _ us hl => match us, hl with | [_, _], _ => rfl), FunOkG F sc_law_no_outline (fun vs H Q E h => ?_) (fun cdv A outer s H vs Q E hr h => ?_), F.lk⟩
  · obtain ⟨_, _, _, _, _, _, rfl, _⟩ := h; rfl
  obtain ⟨a, b, ns, m, o, L, rfl, l, hm, ho, hs, hn, q⟩ := h
  refine ⟨_, PSs.nox (pss_cons (ps_set (i := 2) sc_law_no_outline.nd rfl (.inl rfl) (pe_callG k__law_draw (hr.mono (by omega)) pas0 (pa_cons (pv 0) (pa_cons (pe_callB c_len rfl B.len_ boot_len (pa_cons (pv 1) pa_nil)) pa_nil))))
      (pss_cons (ps_set (i := 3) sc_law_no_outline.nd rfl (.inl rfl) (pe_ix ix_list (pe_lst (pa_cons (pe_un un_neg pe_int) (pa_cons (pe_op op_add (pe_ix ix_list (pv 1) (pv 2) (fun _ _ => rfl)) pe_int) (pa_cons pe_non (pa_cons pe_bl (pa_cons pe_str (pa_cons (pe_lst (pa_cons pe_int pa_nil)) pa_nil))))))) (pe_callG k__law_draw (hr.mono (by omega)) pas0 (pa_cons (pv 0) (pa_cons pe_int pa_nil))) (fun _ _ => rfl)))
      (pss_cons (ps_set (i := 4) sc_law_no_outline.nd rfl (.inl rfl) (pe_lst (pa_cons pe_non (pa_cons pe_int (pa_cons pe_str (pa_cons pe_dnewK (pa_cons (pe_lst pa_nil) (pa_cons (pe_tup pa_nil) (pa_cons (pe_lst (pa_cons pe_int pa_nil)) (pa_cons (pe_lst (pa_cons pe_int (pa_cons pe_int pa_nil))) (pa_cons (pe_lst (pa_cons (pe_lst (pa_cons pe_int pa_nil)) pa_nil)) (pa_cons (pe_callTy c_tuple rfl B.tuple_ boot_tuple (pa_cons (pv 1) pa_nil)) (pa_cons (pe_op op_rep (pe_lst (pa_cons pe_int pa_nil)) pe_int) pa_nil)))))))))))))
      (pss_cons (ps_set (i := 4) sc_law_no_outline.nd rfl (.inl rfl) (pe_op op_cat (pv 4) (pe_op op_rep (pe_lst (pa_cons (pe_op op_cat (pe_op op_cat (pe_slice sl_list (pv 1) po_none (po_some (pv 2))) (pe_lst (pa_cons (pv 3) pa_nil))) (pe_slice sl_list (pv 1) (po_some (pe_op op_add (pv 2) pe_int)) po_none)) pa_nil)) pe_int)))
      (pss_one (ps_ret (pe_ix ix_list (pv 4) (pe_callG k__law_draw (hr.mono (by omega)) pas0 (pa_cons (pv 0) (pa_cons pe_int pa_nil))) (fun _ _ => rfl)))))))), ?_⟩
  rw [show L2.start ["bag", "depths", "at", "odd", "some"] [.ref a, .ref b] = [some (.ref a), some (.ref b), none, none, none] from rfl]
  refine Tr.of ?_ l
  obtain ⟨R_hm, P_hm⟩ := Pick.of_mem hm
  repeat walk_at "hz"
  obtain ⟨R, hp⟩ := Pick.of_mem hm
  have hl := ho.len
  have sm := sz_depths ho
  repeat walk_at "hz"
  refine use_law_draw (by walk_at "pk") hs (by omega) (by omega) (by omega) fun u o_u ul uh hs => ?_
  repeat walk_at "hz"
  have ub := ho.at (i := u) ul uh
  refine use_law_draw (by walk_at "pk") hs (by omega) (by omega) (by omega) fun e o_e el eh hs => ?_
  repeat walk_at "hz"
  rename_i pl pz
  obtain ⟨odd, hodd, om⟩ := at_memV (xs := [V.int (-1), .int (atD ns u + 200), .non, .bl true, .str "0", .ref pl]) el (by simpa using eh)
  refine t_ixL (by walk_at "pk") hodd ?_
  repeat walk_at "hz"
  rw [rep_ints]
  repeat walk_at "hz"
  rw [cutI_to ul (by omega)]
  repeat walk_at "hz"
  rw [cutI_from (by omega) (by omega)]
  repeat walk_at "hz"
  rename_i q17 q16 q15 q14 q13 q12 q11 q10 q9 q8 q7 q6 q5 q4 q3 q2 q1 q0
  refine Tr.lcast (show _ = [V.ref q2, .ref q2, .ref q2, .ref q2, .ref q2] from rfl) ?_
  repeat walk_at "hz"
  rename_i qs
  refine use_law_draw (by walk_at "pk") hs (by omega) (by omega) (by omega) fun f o_f fl fh hs => ?_
  repeat walk_at "hz"
  obtain ⟨x, hx, xm⟩ := at_memV (xs := [V.non, .int 0, .str "0", .ref q17, .ref q16, .ref q15, .ref q14, .ref q13, .ref q11, .ref q10, .ref q8] ++ [V.ref q2, .ref q2, .ref q2, .ref q2, .ref q2]) fl (by simpa using fh)
  refine t_ixL (by walk_at "pk") hx ?_
  repeat walk_at "hz"
  have hs2 : Bag (m + 3) o_f := hs
  refine t_preV (fun d => Sz 2000000 5 d ∧ outD d = false) (fun d h1 h2 => q x d _ _ h1 h2.1 h2.2 hs2) (by walk_at "pk") (by walk_at "pre") ?_
  have i30 : ∀ {ms : List Int}, (∀ n ∈ ms, n ∈ ns) → ∀ d ∈ ms.map PyData.int, Sz 1000 2 d := fun hms d hd => by
    obtain ⟨n, hn, rfl⟩ := List.mem_map.mp hd
    exact sz_small (Nat.lt_trans (sm n (hms n hn)) (by decide))
  have s0 : Sz 1000 2 (.str "0") := (Sz.str (by decide)).le (by decide) (by decide)
  simp only [List.cons_append, List.nil_append, List.mem_cons, List.not_mem_nil, or_false, or_self] at xm
  rcases xm with rfl | rfl | rfl | rfl | rfl | rfl | rfl | rfl | rfl | rfl | rfl | rfl
  · exact ⟨_, .non, Sz.none.le (by decide) (by decide), rfl⟩
  · exact ⟨_, .int _, (sz_small (by decide)).le (by decide) (by decide), rfl⟩
  · exact ⟨_, .str _, s0.le (by decide) (by decide), rfl⟩
  · exact ⟨_, .dct (by walk_at "mb"), Sz.dct.le (by decide) (by decide), rfl⟩
  · exact ⟨_, .lst (by walk_at "mb") .nil, (Sz.list (n := 1000) (k := 2) 300 (fun _ h => absurd h (by simp)) (by decide)).le (by decide) (by decide), rfl⟩
  · exact ⟨_, .tup (by walk_at "mb") .nil, (Sz.tuple (n := 1000) (k := 2) 300 (fun _ h => absurd h (by simp)) (by decide)).le (by decide) (by decide), rfl⟩
  · exact ⟨_, .lst (by walk_at "mb") (DvAll.ints [1]), (Sz.ints 30 200 (by decide) (by decide) (by decide) (by decide)).le (by decide) (by decide), not_outD (ns := []) (es := []) fun i h => by cases h; exact .inr (by decide)⟩
  · exact ⟨_, .lst (by walk_at "mb") (DvAll.ints [0, 2]), (Sz.ints 30 200 (by decide) (by decide) (by decide) (by decide)).le (by decide) (by decide), not_outD (ns := [0]) (es := []) fun i h => by cases h; exact .inr (by decide)⟩
  · exact ⟨_, .lst (by walk_at "mb") (.cons (.ints (ns := [0]) (by walk_at "mb")) .nil), (Sz.list (n := 1000) (k := 2) 1 (fun e he => by rw [List.mem_singleton.mp he]; exact (Sz.ints (ns := [0]) 30 1 (by decide) (by decide) (by decide) (by decide)).le (by decide) (by decide)) (by simp)).le (by decide) (by decide), not_outD (ns := []) fun i h => by cases h⟩
  · exact ⟨_, .tup (by walk_at "mb") (DvAll.ints _), (Sz.tuple (n := 1000) (k := 2) 300 (i30 fun n h => h) (by rw [List.length_map]; omega)).le (by decide) (by decide), rfl⟩
  · refine ⟨_, .lst (by walk_at "mb") (DvAll.ints _), (Sz.list (n := 1000) (k := 2) 300 (fun e he => ?_) (by decide)).le (by decide) (by decide), by rw [outD_ints]; decide⟩
    obtain ⟨n, hn, rfl⟩ := List.mem_map.mp he
    rw [(List.mem_replicate.mp hn).2]; exact sz_small (by decide)
  · suffices hodd : ∃ d, Dv _ odd d ∧ Sz 1000 2 d ∧ ∀ i, d = .int i → i < 0 ∨ lastD (-1) (ns.take u.toNat) + 1 < i by
      obtain ⟨d, h1, h2, h3⟩ := hodd
      refine ⟨_, .lst (by walk_at "mb") (((DvAll.ints _).app (.cons h1 .nil)).app (DvAll.ints _)), (Sz.list (n := 1000) (k := 2) 300 (fun e he => ?_) ?_).le (by decide) (by decide), ?_⟩
      · rw [List.mem_append, List.mem_append, List.mem_singleton] at he
        rcases he with (he | rfl) | he
        · exact i30 (fun n hn => List.mem_of_mem_take hn) e he
        · exact h2
        · exact i30 (fun n hn => List.mem_of_mem_drop hn) e he
      · simp only [List.length_append, List.length_map, List.length_take, List.length_drop, List.length_singleton]; omega
      · rw [List.append_assoc, List.singleton_append]
        exact not_outD h3
    have bb : lastD (-1) (ns.take u.toNat) ≤ 198 := by
      by_cases c : u.toNat = 0
      · rw [c]; show (-1 : Int) ≤ 198; omega
      · have := lastD_bound (-1) (ns.take u.toNat) (chainI_take _ _ _ ho.chain) (by rw [List.length_take]; omega)
        rw [List.length_take] at this
        omega
    simp only [List.mem_cons, List.not_mem_nil, or_false] at om
    rcases om with rfl | rfl | rfl | rfl | rfl | rfl
    · exact ⟨_, .int _, sz_small (by decide), fun i h => by cases h; omega⟩
    · exact ⟨_, .int _, sz_small (by omega), fun i h => by cases h; omega⟩
    · exact ⟨_, .non, Sz.none.le (by decide) (by decide), fun i h => by cases h⟩
    · exact ⟨_, .bl _, (Sz.bool _).le (by decide) (by decide), fun i h => by cases h⟩
    · exact ⟨_, .str _, s0, fun i h => by cases h⟩
    · exact ⟨_, .lst (by walk_at "mb") (DvAll.ints [0]), (Sz.list (n := 100) (k := 0) 1 (fun d hd => by rw [List.mem_singleton.mp hd]; exact (Sz.int 1 (by decide) (by decide) (by decide)).le (by decide) (by decide)) (by decide)).le (by decide) (by decide), fun i h => by cases h⟩

theorem nextL_pair {x y : Int} (h : ¬ x < y) : ∀ (l r : List Int), nextL (l ++ x :: y :: r) = false
  | [], r => by rw [List.nil_append, nextL, decide_eq_false h]; rfl
  | [a], r => by
    have := nextL_pair h [] r
    rw [List.nil_append] at this
    rw [List.cons_append, List.nil_append, nextL, this, Bool.and_false]
  | a :: b :: l, r => by
    rw [List.cons_append, List.cons_append, nextL]
    have := nextL_pair h (b :: l) r
    rw [List.cons_append] at this
    rw [this, Bool.and_false]
theorem t_preF {L M R N : Lg} {a : Addr} {n : Nat} {x : V} {o : HO} {G : Hp → Prop} (S : PyData → Prop) (k : ∀ d, Dv (N ++ L) x d → FoldIs (N ++ L) n x false → S d → Tr ((a, o) :: (N ++ L)) G) (hp : Pick a o M R) (h : Pre R L N)
    (key : ∃ d, Dv R x d ∧ FoldIs R n x false ∧ S d) : Tr M G := by
  obtain ⟨d, h1, h2, h3⟩ := key
  rw [h.eq] at h1 h2
  exact t_pre hp h (k d h1 h2 h3)
def sp_law_no_folds  : Sp := fun vs H Q E => ∃ (a b c : Addr) (ns ms : List Int) (m : Nat) (o : HO) (L : Lg), vs = [.ref a, .ref b, .ref c] ∧ Led H ((a, o) :: L) ∧ ((b, .lst (ns.map V.int)) ∈ L) ∧ ((c, .lst (ms.map V.int)) ∈ L) ∧ (Outline ns) ∧ (FoldsOk ns.length ms) ∧ (Bag m o) ∧ (m ≤ 100000000) ∧ ∀ (x : V) (d : PyData) (N : Lg) (o' : HO), (Dv (N ++ L) x d) → (FoldIs (N ++ L) ns.length x false) → (Sz 2000000 5 d) → (Bag (m + 6) o') → Tr ((a, o') :: (N ++ L)) (fun H => Q (x) H)
theorem use_law_no_folds {L0  L : Lg} {Q : VK} {E : XK} {a b c : Addr} {ns ms : List Int} {m : Nat} {o : HO} (hp0 : Pick (a) (o) L0 L) (hm : (b, .lst (ns.map V.int)) ∈ L) (hb : (c, .lst (ms.map V.int)) ∈ L) (ho : Outline ns) (hf : FoldsOk ns.length ms) (hs : Bag m o) (hn : m ≤ 100000000) (q : ∀ (x : V) (d : PyData) (N : Lg) (o' : HO), (Dv (N ++ L) x d) → (FoldIs (N ++ L) ns.length x false) → (Sz 2000000 5 d) → (Bag (m + 6) o') → Tr ((a, o') :: (N ++ L)) (fun H => Q (x) H)) : Tr L0 fun H => sp_law_no_folds [.ref a, .ref b, .ref c] H Q E :=
  fun H l => ⟨a, b, c, ns, ms, m, o, L, rfl, l.pick hp0, hm, hb, ho, hf, hs, hn, q⟩

theorem ok_law_no_folds (D : Df K mg "_law_no_folds" s_law_no_folds) (B : Blt mg) (k__law_draw : Ok P w K mg base CX0 1 "_law_draw" ["bag", "many"] sp_law_draw) : Ok P w K mg base CX0 2 "_law_no_folds" ["bag", "depths", "marks"] sp_law_no_folds := by
  obtain ⟨f, fd, hm, F⟩ := D
  refine ⟨f, fd, hm, F.kp, F.binds (fun _ _ _ _ _ _ us hl => match us, hl with | [_, _, _], _ => rfl), FunOkG F sc_law_no_folds (fun vs H Q E h => ?_) (fun cdv A outer s H vs Q E hr h => ?_), F.lk⟩
  · obtain ⟨_, _, _, _, _, _, _, _, rfl, _⟩ := h; rfl
  obtain ⟨a, b, c, ns, ms, m, o, L, rfl, l, hm, hb, ho, hf, hs, hn, q⟩ := h
  refine ⟨_, PSs.nox (pss_cons (ps_set (i := 3) sc_law_no_folds.nd rfl (.inl rfl) (pe_callG k__law_draw (hr.mono (by omega)) pas0 (pa_cons (pv 0) (pa_cons (pe_op op_add (pe_callB c_len rfl B.len_ boot_len (pa_cons (pv 2) pa_nil)) pe_int) pa_nil))))
      (pss_cons (ps_set (i := 4) sc_law_no_folds.nd rfl (.inl rfl) (pe_ix ix_list (pe_lst (pa_cons (pe_un un_neg pe_int) (pa_cons (pe_callB c_len rfl B.len_ boot_len (pa_cons (pv 1) pa_nil)) (pa_cons pe_non (pa_cons pe_bl (pa_cons pe_str (pa_cons (pe_lst (pa_cons pe_int pa_nil)) (pa_cons (pe_op op_powW pe_int pe_int) pa_nil)))))))) (pe_callG k__law_draw (hr.mono (by omega)) pas0 (pa_cons (pv 0) (pa_cons pe_int pa_nil))) (fun _ _ => rfl)))
      (pss_cons (ps_set (i := 5) sc_law_no_folds.nd rfl (.inl rfl) (pe_callG k__law_draw (hr.mono (by omega)) pas0 (pa_cons (pv 0) (pa_cons (pe_callB (c_max2 rfl) rfl B.max_ boot_max (pa_cons pe_int (pa_cons (pe_callB c_len rfl B.len_ boot_len (pa_cons (pv 2) pa_nil)) pa_nil))) pa_nil))))
      (pss_cons (ps_set (i := 6) sc_law_no_folds.nd rfl (.inl rfl) (pe_ifExp (pt_cmpR (op_neD hr.rm.units) (pv 2) (pe_lst pa_nil) (nomark _)) (pe_op op_cat (pe_slice sl_list (pv 2) po_none (po_some (pe_op op_add (pv 5) pe_int))) (pe_slice sl_list (pv 2) (po_some (pv 5)) po_none)) (pe_lst (pa_cons pe_int (pa_cons pe_int pa_nil)))))
      (pss_cons (ps_set (i := 7) sc_law_no_folds.nd rfl (.inl rfl) (pe_lst (pa_cons pe_non (pa_cons pe_int (pa_cons (pe_callTy c_tuple rfl B.tuple_ boot_tuple (pa_cons (pv 2) pa_nil)) (pa_cons pe_dnewK (pa_cons pe_str (pa_cons (pe_op op_cat (pe_op op_cat (pe_slice sl_list (pv 2) po_none (po_some (pv 3))) (pe_lst (pa_cons (pv 4) pa_nil))) (pe_slice sl_list (pv 2) (po_some (pv 3)) po_none)) (pa_cons (pv 6) (pa_cons (pe_lst (pa_cons (pe_op op_sub (pe_callB c_len rfl B.len_ boot_len (pa_cons (pv 1) pa_nil)) pe_int) (pa_cons pe_int (pa_cons pe_int pa_nil)))) pa_nil))))))))))
      (pss_one (ps_ret (pe_ix ix_list (pv 7) (pe_ix ix_list (pe_lst (pa_cons (pe_callG k__law_draw (hr.mono (by omega)) pas0 (pa_cons (pv 0) (pa_cons pe_int pa_nil))) (pa_cons pe_int (pa_cons pe_int pa_nil)))) (pe_callG k__law_draw (hr.mono (by omega)) pas0 (pa_cons (pv 0) (pa_cons pe_int pa_nil))) (fun _ _ => rfl)) (fun _ _ => rfl))))))))), ?_⟩
  rw [show L2.start ["bag", "depths", "marks", "at", "odd", "twin", "double", "some"] [.ref a, .ref b, .ref c] = [some (.ref a), some (.ref b), some (.ref c), none, none, none, none, none] from rfl]
  refine Tr.of ?_ l
  obtain ⟨R_hm, P_hm⟩ := Pick.of_mem hm
  obtain ⟨R_hb, P_hb⟩ := Pick.of_mem hb
  repeat walk_at "hz"
  obtain ⟨R, hp⟩ := Pick.of_mem hm
  obtain ⟨R2, hp2⟩ := Pick.of_mem hb
  have hl := ho.len
  have ml := hf.len
  repeat walk_at "hz"
  refine use_law_draw (by walk_at "pk") hs (by omega) (by omega) (by omega) fun u o_u ul uh hs => ?_
  repeat walk_at "hz"
  repeat walk_at "hz"
  refine t_rI (pow_ok 5 (by decide) (by decide) (by decide) (by decide)) ?_
  rw [show (10 : Int) ^ (30 : Int).toNat = 1000000000000000000000000000000 by decide]
  repeat walk_at "hz"
  refine use_law_draw (by walk_at "pk") hs (by omega) (by omega) (by omega) fun e o_e el eh hs => ?_
  repeat walk_at "hz"
  rename_i pl pz
  obtain ⟨odd, hodd, om⟩ := at_memV (xs := [V.int (-1), .int ns.length, .non, .bl true, .str "0", .ref pl, .int 1000000000000000000000000000000]) el (by simpa using eh)
  refine t_ixL (by walk_at "pk") hodd ?_
  repeat walk_at "hz"
  refine use_law_draw (by walk_at "pk") hs (by omega) (by omega) (by omega) fun tw o_tw twl twh hs => ?_
  repeat walk_at "hz"
  refine t_neInts (xs := ms) (ys := []) (by walk_at "mb") (by walk_at "mb") ?_
  repeat walk_at "hz"
  refine t_ifV (α := Addr × List Int) (fun y => .ref y.1) (fun y => (y.1, .lst (y.2.map V.int)) :: (a, o_tw) :: (pl, .lst [.int 0]) :: L) (fun y => nextL y.2 = false ∧ (∀ k ∈ y.2, 0 ≤ k ∧ k < (ns.length : Int)) ∧ y.2.length ≤ 300) (fun bq Q j => ?_) (fun bq Q j => ?_) ?_
  · have mp : 1 ≤ ms.length := by
      cases ms with
      | nil => simp at bq
      | cons _ _ => simp
    repeat walk_at "hz"
    rw [cutI_to (by omega) (by omega)]
    repeat walk_at "hz"
    rw [cutI_from (by omega) (by omega)]
    repeat walk_at "hz"
    rename_i q1 q2 q3
    have e1 : ms.take (tw + 1).toNat ++ ms.drop tw.toNat = ms.take tw.toNat ++ atD ms tw :: atD ms tw :: ms.drop (tw.toNat + 1) := by
      have g := atD_get (ns := ms) (i := tw) twl (by omega)
      obtain ⟨g1, g2⟩ := List.getElem?_eq_some_iff.mp g
      rw [show (tw + 1).toNat = tw.toNat + 1 by omega, List.take_succ, g, List.drop_eq_getElem_cons g1, g2]
      simp
    refine j (q3, ms.take (tw + 1).toNat ++ ms.drop tw.toNat) ⟨?_, fun k hk => ?_, ?_⟩ _ (by walk_at "sb")
    · dsimp only
      rw [e1]
      exact nextL_pair (by omega) _ _
    · dsimp only at hk
      rcases List.mem_append.mp hk with hk | hk
      · exact hf.rg k (List.mem_of_mem_take hk)
      · exact hf.rg k (List.mem_of_mem_drop hk)
    · have := hl.2
      dsimp only
      rw [List.length_append, List.length_take, List.length_drop]
      omega
  · repeat walk_at "hz"
    rename_i q1
    exact j (q1, [0, 0]) ⟨rfl, fun k hk => by simp at hk; omega, by simp⟩ _ (by walk_at "sb")
  rintro ⟨dq, dl⟩ ⟨dn, dr, dlen⟩
  dsimp only at dn dr dlen ⊢
  repeat walk_at "hz"
  rw [cutI_to ul (by omega)]
  repeat walk_at "hz"
  rw [cutI_from ul (by omega)]
  repeat walk_at "hz"
  rename_i s8 s7 s6 s5 s4 s3 s2 s1 s0
  refine use_law_draw (by walk_at "pk") hs (by omega) (by omega) (by omega) fun w1 o_w1 w1l w1h hs => ?_
  repeat walk_at "hz"
  repeat walk_at "hz"
  refine use_law_draw (by walk_at "pk") hs (by omega) (by omega) (by omega) fun w2 o_w2 w2l w2h hs => ?_
  repeat walk_at "hz"
  obtain ⟨z, z_at, z_mem, -⟩ := at_mem (ns := [w1, 5, 6]) w2l (by simpa using w2h)
  have zb : 0 ≤ z ∧ z < 8 := by
    simp only [List.mem_cons, List.not_mem_nil, or_false] at z_mem
    omega
  refine t_ixL (by walk_at "pk") z_at ?_
  repeat walk_at "hz"
  obtain ⟨x, hx, xm⟩ := at_memV (xs := [V.non, .int 0, .ref s8, .ref s7, .str "0", .ref s2, .ref dq, .ref s1]) zb.1 (by simpa using zb.2)
  refine t_ixL (by walk_at "pk") hx ?_
  repeat walk_at "hz"
  have hs2 : Bag (m + 6) o_w2 := hs.le (by omega)
  refine t_preF (fun d => Sz 2000000 5 d) (fun d h1 h2 h3 => q x d _ _ h1 h2 h3 hs2) (by walk_at "pk") (by walk_at "pre") ?_
  have s0 : Sz 1000 2 (.str "0") := (Sz.str (by decide)).le (by decide) (by decide)
  have odd_ok : ∀ M : Lg, (pl, HO.lst [.int 0]) ∈ M → rgV ns.length odd = false ∧ ∃ od, Dv M odd od ∧ Sz 1000 3 od := by
    intro M m1
    simp only [List.mem_cons, List.not_mem_nil, or_false] at om
    rcases om with e | e | e | e | e | e | e <;> rw [e]
    · exact ⟨by rw [rgV_int, decide_eq_false (by omega)]; rfl, _, .int _, (sz_small (by decide)).le (by decide) (by decide)⟩
    · exact ⟨by rw [rgV_int, decide_eq_false (show ¬ (ns.length : Int) < ns.length by omega), Bool.and_false], _, .int _, (sz_small (by omega)).le (by decide) (by decide)⟩
    · exact ⟨rfl, _, .non, Sz.none.le (by decide) (by decide)⟩
    · exact ⟨rfl, _, .bl _, (Sz.bool _).le (by decide) (by decide)⟩
    · exact ⟨rfl, _, .str _, s0.le (by decide) (by decide)⟩
    · exact ⟨rfl, _, .lst m1 (DvAll.ints [0]), (Sz.list (n := 100) (k := 0) 1 (fun d hd => by rw [List.mem_singleton.mp hd]; exact (Sz.int 1 (by decide) (by decide) (by decide)).le (by decide) (by decide)) (by decide)).le (by decide) (by decide)⟩
    · exact ⟨by rw [rgV_int, decide_eq_false (show ¬ (1000000000000000000000000000000 : Int) < ns.length by omega), Bool.and_false], _, .int _, (sz_small (by decide)).le (by decide) (by decide)⟩
  have i30 : ∀ {ks : List Int}, (∀ k ∈ ks, 0 ≤ k ∧ k < (ns.length : Int)) → ∀ d ∈ ks.map PyData.int, Sz 1000 3 d := fun hms d hd => by
    obtain ⟨n, hn, rfl⟩ := List.mem_map.mp hd
    have := hms n hn
    exact (sz_small (by omega)).le (by decide) (by decide)
  simp only [List.mem_cons, List.not_mem_nil, or_false] at xm
  rcases xm with rfl | rfl | rfl | rfl | rfl | rfl | rfl | rfl
  · exact ⟨_, .non, .kind .non (by decide), Sz.none.le (by decide) (by decide)⟩
  · exact ⟨_, .int _, .kind (.int _) (by decide), (sz_small (by decide)).le (by decide) (by decide)⟩
  · exact ⟨_, .tup (by walk_at "mb") (DvAll.ints _), .kind (.tup (by walk_at "mb")) (by decide), (Sz.tuple (n := 1000) (k := 3) 300 (i30 hf.rg) (by rw [List.length_map]; omega)).le (by decide) (by decide)⟩
  · exact ⟨_, .dct (by walk_at "mb"), .kind (.dct (by walk_at "mb")) (by decide), Sz.dct.le (by decide) (by decide)⟩
  · exact ⟨_, .str _, .kind (.str _) (by decide), s0.le (by decide) (by decide)⟩
  · suffices hh : rgV ns.length odd = false ∧ ∃ od, Dv _ odd od ∧ Sz 1000 3 od by
      obtain ⟨ob, od, h1, h2⟩ := hh
      refine ⟨_, .lst (by walk_at "mb") (((DvAll.ints _).app (.cons h1 .nil)).app (DvAll.ints _)), .item (by walk_at "mb") (fun v hv => ?_) ?_ ⟨odd, by simp, ob⟩, (Sz.list (n := 1000) (k := 3) 300 (fun d hd => ?_) ?_).le (by decide) (by decide)⟩
      · rw [List.mem_append, List.mem_append, List.mem_singleton] at hv
        rcases hv with (hv | rfl) | hv
        · obtain ⟨k, _, rfl⟩ := List.mem_map.mp hv; exact ⟨_, .int _⟩
        · exact ⟨_, h1.ty⟩
        · obtain ⟨k, _, rfl⟩ := List.mem_map.mp hv; exact ⟨_, .int _⟩
      · have := hl.2
        simp only [List.length_append, List.length_map, List.length_take, List.length_drop, List.length_singleton]; omega
      · rw [List.mem_append, List.mem_append, List.mem_singleton] at hd
        rcases hd with (hd | rfl) | hd
        · exact i30 (fun k hk => hf.rg k (List.mem_of_mem_take hk)) d hd
        · exact h2
        · exact i30 (fun k hk => hf.rg k (List.mem_of_mem_drop hk)) d hd
      · have := hl.2
        simp only [List.length_append, List.length_map, List.length_take, List.length_drop, List.length_singleton]; omega
    exact odd_ok _ (by walk_at "mb")
  · exact ⟨_, .lst (by walk_at "mb") (DvAll.ints _), .order (by walk_at "mb") dr (by omega) dn, (Sz.list (n := 1000) (k := 3) 300 (i30 dr) (by rw [List.length_map]; omega)).le (by decide) (by decide)⟩
  · have rr : ∀ k ∈ [(ns.length : Int) - 1, 0, 0], 0 ≤ k ∧ k < (ns.length : Int) := fun k hk => by
      simp only [List.mem_cons, List.not_mem_nil, or_false] at hk
      omega
    exact ⟨_, .lst (by walk_at "mb") (DvAll.ints [(ns.length : Int) - 1, 0, 0]), .order (ms := [(ns.length : Int) - 1, 0, 0]) (by walk_at "mb") rr (by simp) (nextL_pair (by decide) [(ns.length : Int) - 1] []), (Sz.list (n := 1000) (k := 3) 300 (i30 rr) (by simp)).le (by decide) (by decide)⟩

def wordK : Nat → String
  | 0 => "outline"
  | 1 => "height"
  | 2 => "line"
  | _ => "folds"
def sp_law_kind (C_InvalidFoldsError C_InvalidHeightError C_InvalidLineError C_InvalidOutlineError : Addr) : Sp := fun vs H Q E => ∃ (a C : Addr) (k : Nat) (L : Lg), vs = [.ref a] ∧ Led H (L) ∧ ((a, exF a C none) ∈ L) ∧ ((k = 0 ∧ C = C_InvalidOutlineError) ∨ (k = 1 ∧ C = C_InvalidHeightError) ∨ (k = 2 ∧ C = C_InvalidLineError) ∨ (k = 3 ∧ C = C_InvalidFoldsError)) ∧ Tr (L) (fun H => Q (.str (Str.ofString (wordK k))) H)
theorem use_law_kind {L : Lg} {Q : VK} {E : XK} {a C : Addr} {k : Nat} (he : (a, exF a C none) ∈ L) (hd : (k = 0 ∧ C = C_InvalidOutlineError) ∨ (k = 1 ∧ C = C_InvalidHeightError) ∨ (k = 2 ∧ C = C_InvalidLineError) ∨ (k = 3 ∧ C = C_InvalidFoldsError)) (q : Tr (L) (fun H => Q (.str (Str.ofString (wordK k))) H)) : Tr L fun H => sp_law_kind C_InvalidFoldsError C_InvalidHeightError C_InvalidLineError C_InvalidOutlineError [.ref a] H Q E :=
  fun H l => ⟨a, C, k, L, rfl, l, he, hd, q⟩

theorem ok_law_kind {C_EmptyHistoryError C_EmptyOutlineError C_EndError C_HiddenLineError C_InvalidDepthError C_InvalidDocumentError C_InvalidFoldsError C_InvalidHeightError C_InvalidLineError C_InvalidNumberError C_InvalidObservationsError C_InvalidOutlineError C_InvalidReadingError C_InvalidScrollError C_InvalidTextError C_InvalidTitleError C_TooDeepError C_TooManyLinesError : Addr} (D : Df K mg "_law_kind" s_law_kind) (B : Blt mg) (g_EmptyHistoryError : GV mg "EmptyHistoryError" (.ref C_EmptyHistoryError)) (g_EndError : GV mg "EndError" (.ref C_EndError)) (g_HiddenLineError : GV mg "HiddenLineError" (.ref C_HiddenLineError)) (g_InvalidDepthError : GV mg "InvalidDepthError" (.ref C_InvalidDepthError)) (g_InvalidDocumentError : GV mg "InvalidDocumentError" (.ref C_InvalidDocumentError)) (g_InvalidNumberError : GV mg "InvalidNumberError" (.ref C_InvalidNumberError)) (g_InvalidObservationsError : GV mg "InvalidObservationsError" (.ref C_InvalidObservationsError)) (g_InvalidReadingError : GV mg "InvalidReadingError" (.ref C_InvalidReadingError)) (g_InvalidScrollError : GV mg "InvalidScrollError" (.ref C_InvalidScrollError)) (g_InvalidTextError : GV mg "InvalidTextError" (.ref C_InvalidTextError)) (g_InvalidTitleError : GV mg "InvalidTitleError" (.ref C_InvalidTitleError)) (g_TooDeepError : GV mg "TooDeepError" (.ref C_TooDeepError)) (g_TooManyLinesError : GV mg "TooManyLinesError" (.ref C_TooManyLinesError)) (g_EmptyOutlineError : GV mg "EmptyOutlineError" (.ref C_EmptyOutlineError)) (g_InvalidOutlineError : GV mg "InvalidOutlineError" (.ref C_InvalidOutlineError)) (g_InvalidHeightError : GV mg "InvalidHeightError" (.ref C_InvalidHeightError)) (n_ValueError : mg "ValueError" = none) (g_InvalidLineError : GV mg "InvalidLineError" (.ref C_InvalidLineError)) (g_InvalidFoldsError : GV mg "InvalidFoldsError" (.ref C_InvalidFoldsError)) (T_InvalidOutlineError : Sbj K C_InvalidOutlineError) (i_InvalidOutlineError_EmptyHistoryError : PySem.W.kitOne K (.ref C_InvalidOutlineError) (.ref C_EmptyHistoryError) = some false) (i_InvalidOutlineError_EndError : PySem.W.kitOne K (.ref C_InvalidOutlineError) (.ref C_EndError) = some false) (i_InvalidOutlineError_HiddenLineError : PySem.W.kitOne K (.ref C_InvalidOutlineError) (.ref C_HiddenLineError) = some false) (i_InvalidOutlineError_InvalidDepthError : PySem.W.kitOne K (.ref C_InvalidOutlineError) (.ref C_InvalidDepthError) = some false) (i_InvalidOutlineError_InvalidDocumentError : PySem.W.kitOne K (.ref C_InvalidOutlineError) (.ref C_InvalidDocumentError) = some false) (i_InvalidOutlineError_InvalidNumberError : PySem.W.kitOne K (.ref C_InvalidOutlineError) (.ref C_InvalidNumberError) = some false) (i_InvalidOutlineError_InvalidObservationsError : PySem.W.kitOne K (.ref C_InvalidOutlineError) (.ref C_InvalidObservationsError) = some false) (i_InvalidOutlineError_InvalidReadingError : PySem.W.kitOne K (.ref C_InvalidOutlineError) (.ref C_InvalidReadingError) = some false) (i_InvalidOutlineError_InvalidScrollError : PySem.W.kitOne K (.ref C_InvalidOutlineError) (.ref C_InvalidScrollError) = some false) (i_InvalidOutlineError_InvalidTextError : PySem.W.kitOne K (.ref C_InvalidOutlineError) (.ref C_InvalidTextError) = some false) (i_InvalidOutlineError_InvalidTitleError : PySem.W.kitOne K (.ref C_InvalidOutlineError) (.ref C_InvalidTitleError) = some false) (i_InvalidOutlineError_TooDeepError : PySem.W.kitOne K (.ref C_InvalidOutlineError) (.ref C_TooDeepError) = some false) (i_InvalidOutlineError_TooManyLinesError : PySem.W.kitOne K (.ref C_InvalidOutlineError) (.ref C_TooManyLinesError) = some false) (i_InvalidOutlineError_EmptyOutlineError : PySem.W.kitOne K (.ref C_InvalidOutlineError) (.ref C_EmptyOutlineError) = some false) (i_InvalidOutlineError_InvalidOutlineError : PySem.W.kitOne K (.ref C_InvalidOutlineError) (.ref C_InvalidOutlineError) = some true) (i_InvalidOutlineError_InvalidHeightError : PySem.W.kitOne K (.ref C_InvalidOutlineError) (.ref C_InvalidHeightError) = some false) (iv_InvalidOutlineError : PySem.W.kitOne K (.ref C_InvalidOutlineError) (.type "ValueError") = some true) (i_InvalidOutlineError_InvalidLineError : PySem.W.kitOne K (.ref C_InvalidOutlineError) (.ref C_InvalidLineError) = some false) (i_InvalidOutlineError_InvalidFoldsError : PySem.W.kitOne K (.ref C_InvalidOutlineError) (.ref C_InvalidFoldsError) = some false) (T_InvalidHeightError : Sbj K C_InvalidHeightError) (i_InvalidHeightError_EmptyHistoryError : PySem.W.kitOne K (.ref C_InvalidHeightError) (.ref C_EmptyHistoryError) = some false) (i_InvalidHeightError_EndError : PySem.W.kitOne K (.ref C_InvalidHeightError) (.ref C_EndError) = some false) (i_InvalidHeightError_HiddenLineError : PySem.W.kitOne K (.ref C_InvalidHeightError) (.ref C_HiddenLineError) = some false) (i_InvalidHeightError_InvalidDepthError : PySem.W.kitOne K (.ref C_InvalidHeightError) (.ref C_InvalidDepthError) = some false) (i_InvalidHeightError_InvalidDocumentError : PySem.W.kitOne K (.ref C_InvalidHeightError) (.ref C_InvalidDocumentError) = some false) (i_InvalidHeightError_InvalidNumberError : PySem.W.kitOne K (.ref C_InvalidHeightError) (.ref C_InvalidNumberError) = some false) (i_InvalidHeightError_InvalidObservationsError : PySem.W.kitOne K (.ref C_InvalidHeightError) (.ref C_InvalidObservationsError) = some false) (i_InvalidHeightError_InvalidReadingError : PySem.W.kitOne K (.ref C_InvalidHeightError) (.ref C_InvalidReadingError) = some false) (i_InvalidHeightError_InvalidScrollError : PySem.W.kitOne K (.ref C_InvalidHeightError) (.ref C_InvalidScrollError) = some false) (i_InvalidHeightError_InvalidTextError : PySem.W.kitOne K (.ref C_InvalidHeightError) (.ref C_InvalidTextError) = some false) (i_InvalidHeightError_InvalidTitleError : PySem.W.kitOne K (.ref C_InvalidHeightError) (.ref C_InvalidTitleError) = some false) (i_InvalidHeightError_TooDeepError : PySem.W.kitOne K (.ref C_InvalidHeightError) (.ref C_TooDeepError) = some false) (i_InvalidHeightError_TooManyLinesError : PySem.W.kitOne K (.ref C_InvalidHeightError) (.ref C_TooManyLinesError) = some false) (i_InvalidHeightError_EmptyOutlineError : PySem.W.kitOne K (.ref C_InvalidHeightError) (.ref C_EmptyOutlineError) = some false) (i_InvalidHeightError_InvalidOutlineError : PySem.W.kitOne K (.ref C_InvalidHeightError) (.ref C_InvalidOutlineError) = some false) (i_InvalidHeightError_InvalidHeightError : PySem.W.kitOne K (.ref C_InvalidHeightError) (.ref C_InvalidHeightError) = some true) (iv_InvalidHeightError : PySem.W.kitOne K (.ref C_InvalidHeightError) (.type "ValueError") = some true) (i_InvalidHeightError_InvalidLineError : PySem.W.kitOne K (.ref C_InvalidHeightError) (.ref C_InvalidLineError) = some false) (i_InvalidHeightError_InvalidFoldsError : PySem.W.kitOne K (.ref C_InvalidHeightError) (.ref C_InvalidFoldsError) = some false) (T_InvalidLineError : Sbj K C_InvalidLineError) (i_InvalidLineError_EmptyHistoryError : PySem.W.kitOne K (.ref C_InvalidLineError) (.ref C_EmptyHistoryError) = some false) (i_InvalidLineError_EndError : PySem.W.kitOne K (.ref C_InvalidLineError) (.ref C_EndError) = some false) (i_InvalidLineError_HiddenLineError : PySem.W.kitOne K (.ref C_InvalidLineError) (.ref C_HiddenLineError) = some false) (i_InvalidLineError_InvalidDepthError : PySem.W.kitOne K (.ref C_InvalidLineError) (.ref C_InvalidDepthError) = some false) (i_InvalidLineError_InvalidDocumentError : PySem.W.kitOne K (.ref C_InvalidLineError) (.ref C_InvalidDocumentError) = some false) (i_InvalidLineError_InvalidNumberError : PySem.W.kitOne K (.ref C_InvalidLineError) (.ref C_InvalidNumberError) = some false) (i_InvalidLineError_InvalidObservationsError : PySem.W.kitOne K (.ref C_InvalidLineError) (.ref C_InvalidObservationsError) = some false) (i_InvalidLineError_InvalidReadingError : PySem.W.kitOne K (.ref C_InvalidLineError) (.ref C_InvalidReadingError) = some false) (i_InvalidLineError_InvalidScrollError : PySem.W.kitOne K (.ref C_InvalidLineError) (.ref C_InvalidScrollError) = some false) (i_InvalidLineError_InvalidTextError : PySem.W.kitOne K (.ref C_InvalidLineError) (.ref C_InvalidTextError) = some false) (i_InvalidLineError_InvalidTitleError : PySem.W.kitOne K (.ref C_InvalidLineError) (.ref C_InvalidTitleError) = some false) (i_InvalidLineError_TooDeepError : PySem.W.kitOne K (.ref C_InvalidLineError) (.ref C_TooDeepError) = some false) (i_InvalidLineError_TooManyLinesError : PySem.W.kitOne K (.ref C_InvalidLineError) (.ref C_TooManyLinesError) = some false) (i_InvalidLineError_EmptyOutlineError : PySem.W.kitOne K (.ref C_InvalidLineError) (.ref C_EmptyOutlineError) = some false) (i_InvalidLineError_InvalidOutlineError : PySem.W.kitOne K (.ref C_InvalidLineError) (.ref C_InvalidOutlineError) = some false) (i_InvalidLineError_InvalidHeightError : PySem.W.kitOne K (.ref C_InvalidLineError) (.ref C_InvalidHeightError) = some false) (iv_InvalidLineError : PySem.W.kitOne K (.ref C_InvalidLineError) (.type "ValueError") = some true) (i_InvalidLineError_InvalidLineError : PySem.W.kitOne K (.ref C_InvalidLineError) (.ref C_InvalidLineError) = some true) (i_InvalidLineError_InvalidFoldsError : PySem.W.kitOne K (.ref C_InvalidLineError) (.ref C_InvalidFoldsError) = some false) (T_InvalidFoldsError : Sbj K C_InvalidFoldsError) (i_InvalidFoldsError_EmptyHistoryError : PySem.W.kitOne K (.ref C_InvalidFoldsError) (.ref C_EmptyHistoryError) = some false) (i_InvalidFoldsError_EndError : PySem.W.kitOne K (.ref C_InvalidFoldsError) (.ref C_EndError) = some false) (i_InvalidFoldsError_HiddenLineError : PySem.W.kitOne K (.ref C_InvalidFoldsError) (.ref C_HiddenLineError) = some false) (i_InvalidFoldsError_InvalidDepthError : PySem.W.kitOne K (.ref C_InvalidFoldsError) (.ref C_InvalidDepthError) = some false) (i_InvalidFoldsError_InvalidDocumentError : PySem.W.kitOne K (.ref C_InvalidFoldsError) (.ref C_InvalidDocumentError) = some false) (i_InvalidFoldsError_InvalidNumberError : PySem.W.kitOne K (.ref C_InvalidFoldsError) (.ref C_InvalidNumberError) = some false) (i_InvalidFoldsError_InvalidObservationsError : PySem.W.kitOne K (.ref C_InvalidFoldsError) (.ref C_InvalidObservationsError) = some false) (i_InvalidFoldsError_InvalidReadingError : PySem.W.kitOne K (.ref C_InvalidFoldsError) (.ref C_InvalidReadingError) = some false) (i_InvalidFoldsError_InvalidScrollError : PySem.W.kitOne K (.ref C_InvalidFoldsError) (.ref C_InvalidScrollError) = some false) (i_InvalidFoldsError_InvalidTextError : PySem.W.kitOne K (.ref C_InvalidFoldsError) (.ref C_InvalidTextError) = some false) (i_InvalidFoldsError_InvalidTitleError : PySem.W.kitOne K (.ref C_InvalidFoldsError) (.ref C_InvalidTitleError) = some false) (i_InvalidFoldsError_TooDeepError : PySem.W.kitOne K (.ref C_InvalidFoldsError) (.ref C_TooDeepError) = some false) (i_InvalidFoldsError_TooManyLinesError : PySem.W.kitOne K (.ref C_InvalidFoldsError) (.ref C_TooManyLinesError) = some false) (i_InvalidFoldsError_EmptyOutlineError : PySem.W.kitOne K (.ref C_InvalidFoldsError) (.ref C_EmptyOutlineError) = some false) (i_InvalidFoldsError_InvalidOutlineError : PySem.W.kitOne K (.ref C_InvalidFoldsError) (.ref C_InvalidOutlineError) = some false) (i_InvalidFoldsError_InvalidHeightError : PySem.W.kitOne K (.ref C_InvalidFoldsError) (.ref C_InvalidHeightError) = some false) (iv_InvalidFoldsError : PySem.W.kitOne K (.ref C_InvalidFoldsError) (.type "ValueError") = some true) (i_InvalidFoldsError_InvalidLineError : PySem.W.kitOne K (.ref C_InvalidFoldsError) (.ref C_InvalidLineError) = some false) (i_InvalidFoldsError_InvalidFoldsError : PySem.W.kitOne K (.ref C_InvalidFoldsError) (.ref C_InvalidFoldsError) = some true) : Ok P w K mg base CX0 1 "_law_kind" ["caught"] (sp_law_kind C_InvalidFoldsError C_InvalidHeightError C_InvalidLineError C_InvalidOutlineError) := by
  obtain ⟨f, fd, hm, F⟩ := D
  refine ⟨f, fd, hm, F.kp, F.binds (fun _ _ _ _ _ _ us hl => match us, hl with | [_], _ => rfl), FunOkG F sc_law_kind (fun vs H Q E h => ?_) (fun cdv A outer s H vs Q E hr h => ?_), F.lk⟩
  · obtain ⟨_, _, _, _, rfl, _⟩ := h; rfl
  obtain ⟨a, C, k, L, rfl, l, he, hd, q⟩ := h
  refine ⟨_, PSs.nox (pss_cons (ps_set (i := 1) sc_law_kind.nd rfl (.inl rfl) (pe_callB (show CallR _ (.builtin "isinstance") (rIsET K) from c_isET) rfl B.isinstance_ boot_isinstance (pa_cons (pv 0) (pa_cons (pe_tup (pa_cons (pe_gv g_EmptyHistoryError) (pa_cons (pe_gv g_EndError) (pa_cons (pe_gv g_HiddenLineError) (pa_cons (pe_gv g_InvalidDepthError) (pa_cons (pe_gv g_InvalidDocumentError) pa_nil)))))) pa_nil))))
      (pss_cons (ps_set (i := 1) sc_law_kind.nd rfl (.inl rfl) (pe_or (pv 1) (pe_one (pe_callB (show CallR _ (.builtin "isinstance") (rIsET K) from c_isET) rfl B.isinstance_ boot_isinstance (pa_cons (pv 0) (pa_cons (pe_tup (pa_cons (pe_gv g_InvalidNumberError) (pa_cons (pe_gv g_InvalidObservationsError) (pa_cons (pe_gv g_InvalidReadingError) pa_nil)))) pa_nil))))))
      (pss_cons (ps_set (i := 1) sc_law_kind.nd rfl (.inl rfl) (pe_or (pv 1) (pe_one (pe_callB (show CallR _ (.builtin "isinstance") (rIsET K) from c_isET) rfl B.isinstance_ boot_isinstance (pa_cons (pv 0) (pa_cons (pe_tup (pa_cons (pe_gv g_InvalidScrollError) (pa_cons (pe_gv g_InvalidTextError) (pa_cons (pe_gv g_InvalidTitleError) (pa_cons (pe_gv g_TooDeepError) pa_nil))))) pa_nil))))))
      (pss_cons (ps_set (i := 1) sc_law_kind.nd rfl (.inl rfl) (pe_or (pv 1) (pe_or (pe_callB (show CallR _ (.builtin "isinstance") (rIsET K) from c_isET) rfl B.isinstance_ boot_isinstance (pa_cons (pv 0) (pa_cons (pe_tup (pa_cons (pe_gv g_TooManyLinesError) (pa_cons (pe_gv g_EmptyOutlineError) pa_nil))) pa_nil))) (pe_one (pe_not (pe_callB (show CallR _ (.builtin "isinstance") (rIsE K) from c_isE) rfl B.isinstance_ boot_isinstance (pa_cons (pv 0) (pa_cons (pe_ty n_ValueError PyProof.Rows.Boot.«ValueError») pa_nil))))))))
      (pss_cons (ps_set (i := 2) sc_law_kind.nd rfl (.inl rfl) (pe_lst (pa_cons (pe_callB (show CallR _ (.builtin "isinstance") (rIsE K) from c_isE) rfl B.isinstance_ boot_isinstance (pa_cons (pv 0) (pa_cons (pe_gv g_InvalidOutlineError) pa_nil))) (pa_cons (pe_callB (show CallR _ (.builtin "isinstance") (rIsE K) from c_isE) rfl B.isinstance_ boot_isinstance (pa_cons (pv 0) (pa_cons (pe_gv g_InvalidHeightError) pa_nil))) pa_nil))))
      (pss_cons (ps_set (i := 2) sc_law_kind.nd rfl (.inl rfl) (pe_op op_cat (pv 2) (pe_lst (pa_cons (pe_callB (show CallR _ (.builtin "isinstance") (rIsE K) from c_isE) rfl B.isinstance_ boot_isinstance (pa_cons (pv 0) (pa_cons (pe_gv g_InvalidLineError) pa_nil))) (pa_cons (pe_callB (show CallR _ (.builtin "isinstance") (rIsE K) from c_isE) rfl B.isinstance_ boot_isinstance (pa_cons (pv 0) (pa_cons (pe_gv g_InvalidFoldsError) pa_nil))) pa_nil)))))
      (pss_cons (ps_if (PW.pt (pw_or (pt_val (pv 1)) (pw_or1 (pt_cmpR op_ne (pe_bm PySem.F.plainAttrs_list PySem.F.slot_list_count PySem.F.type_list_count mt_countB (pv 2) (pa_cons pe_bl pa_nil)) pe_int (nomark _))))) (pss_one (ps_ret pe_str))
        pss_nil)
      (pss_one (ps_ret (pe_ix ix_list (pe_lst (pa_cons pe_str (pa_cons pe_str (pa_cons pe_str (pa_cons pe_str pa_nil))))) (pe_bm PySem.F.plainAttrs_list PySem.F.slot_list_index PySem.F.type_list_index mt_index (pv 2) (pa_cons pe_bl pa_nil)) (fun _ _ => rfl))))))))))), ?_⟩
  rw [show L2.start ["caught", "odd", "some"] [.ref a] = [some (.ref a), none, none] from rfl]
  refine Tr.of ?_ l
  obtain ⟨R_he, P_he⟩ := Pick.of_mem he
  repeat walk_at "hz"
  rcases hd with ⟨rfl, rfl⟩ | ⟨rfl, rfl⟩ | ⟨rfl, rfl⟩ | ⟨rfl, rfl⟩
  · repeat walk_at "hz"
    refine t_countB (bs := [true, false, false, false]) (by walk_at "pk") ?_
    repeat walk_at "hz"
    refine t_indexB (bs := [true, false, false, false]) 0 (by walk_at "pk") rfl (fun m hm => by omega) ?_
    repeat walk_at "hz"
    exact q.sub (by walk_at "sb")
  · repeat walk_at "hz"
    refine t_countB (bs := [false, true, false, false]) (by walk_at "pk") ?_
    repeat walk_at "hz"
    refine t_indexB (bs := [false, true, false, false]) 1 (by walk_at "pk") rfl (fun m hm => by match m, hm with | 0, _ => decide) ?_
    repeat walk_at "hz"
    exact q.sub (by walk_at "sb")
  · repeat walk_at "hz"
    refine t_countB (bs := [false, false, true, false]) (by walk_at "pk") ?_
    repeat walk_at "hz"
    refine t_indexB (bs := [false, false, true, false]) 2 (by walk_at "pk") rfl (fun m hm => by match m, hm with | 0, _ => decide | 1, _ => decide) ?_
    repeat walk_at "hz"
    exact q.sub (by walk_at "sb")
  · repeat walk_at "hz"
    refine t_countB (bs := [false, false, false, true]) (by walk_at "pk") ?_
    repeat walk_at "hz"
    refine t_indexB (bs := [false, false, false, true]) 3 (by walk_at "pk") rfl (fun m hm => by match m, hm with | 0, _ => decide | 1, _ => decide | 2, _ => decide) ?_
    repeat walk_at "hz"
    exact q.sub (by walk_at "sb")
/-- the word for the first bad argument -/
def dueW (two b0 b1 b2 b3 b4 : Bool) : String := if two = true then (if b0 = true then (if b4 = true then "none" else "folds") else "outline")
  else if b0 = true then (if b1 = true then (if b2 = true then (if b3 = true then "none" else "line") else "line") else "height") else "outline"
def sp_law_error  : Sp := fun vs H Q E => ∃ (door : Int) (r : Addr) (v0 v1 v2 v3 v4 : V) (T1 T2 T3 : String) (b0 b1 b2 b3 b4 : Bool) (L : Lg), vs = [.int door, .ref r] ∧ Led H (L) ∧ (0 ≤ door) ∧ (door < 4) ∧ ((r, HO.lst [v0, v1, v2, v3, v4]) ∈ L) ∧ (OutIs L v0 b0) ∧ (HasTy L v1 T1) ∧ (HasTy L v2 T2) ∧ (HasTy L v3 T3) ∧ (htV v1 = b1) ∧ (b0 = true → ∃ a ns, v0 = .ref a ∧ (a, HO.lst (ns.map V.int)) ∈ L ∧ Outline ns ∧ rgV ns.length v2 = b2 ∧ rgV ns.length v3 = b3 ∧ FoldIs L ns.length v4 b4) ∧ Tr (L) (fun H => Q (.str (Str.ofString (dueW (decide (door < 2)) b0 b1 b2 b3 b4))) H)
theorem use_law_error {L : Lg} {Q : VK} {E : XK} {door : Int} {r : Addr} {v0 v1 v2 v3 v4 : V} {T1 T2 T3 : String} {b0 b1 b2 b3 b4 : Bool} (h0 : 0 ≤ door) (h1 : door < 4) (hrow : (r, HO.lst [v0, v1, v2, v3, v4]) ∈ L) (hv0 : OutIs L v0 b0) (ht1 : HasTy L v1 T1) (ht2 : HasTy L v2 T2) (ht3 : HasTy L v3 T3) (hb1 : htV v1 = b1) (hg : b0 = true → ∃ a ns, v0 = .ref a ∧ (a, HO.lst (ns.map V.int)) ∈ L ∧ Outline ns ∧ rgV ns.length v2 = b2 ∧ rgV ns.length v3 = b3 ∧ FoldIs L ns.length v4 b4) (q : Tr (L) (fun H => Q (.str (Str.ofString (dueW (decide (door < 2)) b0 b1 b2 b3 b4))) H)) : Tr L fun H => sp_law_error [.int door, .ref r] H Q E :=
  fun H l => ⟨door, r, v0, v1, v2, v3, v4, T1, T2, T3, b0, b1, b2, b3, b4, L, rfl, l, h0, h1, hrow, hv0, ht1, ht2, ht3, hb1, hg, q⟩

theorem ok_law_error {C_InvalidFoldsError C_InvalidHeightError C_InvalidLineError C_InvalidOutlineError C_StickyHeadsError : Addr} (D : Df K mg "_law_error" s_law_error) (B : Blt mg) (k_lines_left : Ok P w K mg base (L2.CX P w) 4 "lines_left" ["outline", "folds"] (sp_lines_left C_InvalidFoldsError C_InvalidOutlineError)) (k_folded_outline : Ok P w K mg base (L2.CX P w) 5 "folded_outline" ["outline", "folds"] (sp_folded_outline C_InvalidFoldsError C_InvalidOutlineError)) (k_folds_to_show : Ok P w K mg base (L2.CX P w) 4 "folds_to_show" ["outline", "height", "line", "other"] (sp_folds_to_show C_InvalidHeightError C_InvalidLineError C_InvalidOutlineError)) (k_fewest_folds : Ok P w K mg base (L2.CX P w) 5 "fewest_folds" ["outline", "height", "line", "other"] (sp_fewest_folds C_InvalidHeightError C_InvalidLineError C_InvalidOutlineError)) (k__law_kind : Ok P w K mg base CX0 1 "_law_kind" ["caught"] (sp_law_kind C_InvalidFoldsError C_InvalidHeightError C_InvalidLineError C_InvalidOutlineError)) (g_StickyHeadsError : GV mg "StickyHeadsError" (.ref C_StickyHeadsError)) (m_InvalidOutlineError_StickyHeadsError : PySem.W.exmOne K (.ref C_InvalidOutlineError) (.ref C_StickyHeadsError) = some true) (m_InvalidHeightError_StickyHeadsError : PySem.W.exmOne K (.ref C_InvalidHeightError) (.ref C_StickyHeadsError) = some true) (m_InvalidLineError_StickyHeadsError : PySem.W.exmOne K (.ref C_InvalidLineError) (.ref C_StickyHeadsError) = some true) (m_InvalidFoldsError_StickyHeadsError : PySem.W.exmOne K (.ref C_InvalidFoldsError) (.ref C_StickyHeadsError) = some true) : Ok P w K mg base CX0 6 "_law_error" ["door", "rows"] sp_law_error := by
  obtain ⟨f, fd, hm, F⟩ := D
  refine ⟨f, fd, hm, F.kp, F.binds (fun _ _ _ _ _ _ us hl => match us, hl with | [_, _], _ => rfl), FunOkG F sc_law_error (fun vs H Q E h => ?_) (fun cdv A outer s H vs Q E hr h => ?_), F.lk⟩
  · obtain ⟨_, _, _, _, _, _, _, _, _, _, _, _, _, _, _, _, rfl, _⟩ := h; rfl
  obtain ⟨door, r, v0, v1, v2, v3, v4, T1, T2, T3, b0, b1, b2, b3, b4, L, rfl, l, h0, h1, hrow, hv0, ht1, ht2, ht3, hb1, hg, q⟩ := h
  obtain ⟨A_lines_left, v_lines_left, F_lines_left⟩ := ok_fv k_lines_left
  obtain ⟨A_folded_outline, v_folded_outline, F_folded_outline⟩ := ok_fv k_folded_outline
  obtain ⟨A_fewest_folds, v_fewest_folds, F_fewest_folds⟩ := ok_fv k_fewest_folds
  obtain ⟨A_folds_to_show, v_folds_to_show, F_folds_to_show⟩ := ok_fv k_folds_to_show
  refine ⟨_, PSs.nox (pss_cons (ps_set (i := 2) sc_law_error.nd rfl (.inl rfl) pe_non)
      (pss_cons (ps_try_cat (i := 3) rfl rfl sc_law_error.nd rfl rfl ⟨rfl, by decide, .inl g_StickyHeadsError.ref⟩ (fun W pn xe tk po => (pss_one (ps_if (pt_cmpR op_lt (pv 0) pe_int (nomark _)) (pss_one (ps_expr (show PE _ _ (tCallV (FO P w K mg base (L2.CX P w) _) _ _ _) from (pe_callV hr (fun σ => passAt tk σ) (pe_ix (show IxR _ (rIxL K) from ix_list) (pe_lst (pa_cons (pe_gv v_lines_left) (pa_cons (pe_gv v_folded_outline) pa_nil))) (pv 0) (fun _ _ => rfl)) (pa_cons (pe_ix (show IxR _ (rIxL K) from ix_list) (pv 1) pe_int (fun _ _ => rfl)) (pa_cons (pe_ix (show IxR _ (rIxL K) from ix_list) (pv 1) pe_int (fun _ _ => rfl)) pa_nil))))))
        (pss_one (ps_expr (show PE _ _ (tCallV (FO P w K mg base (L2.CX P w) _) _ _ _) from (pe_callV hr (fun σ => passAt tk σ) (pe_ix (show IxR _ (rIxL K) from ix_list) (pe_lst (pa_cons (pe_gv v_fewest_folds) (pa_cons (pe_gv v_folds_to_show) pa_nil))) (pe_op op_sub (pv 0) pe_int) (fun _ _ => rfl)) (pa_cons (pe_ix (show IxR _ (rIxL K) from ix_list) (pv 1) pe_int (fun _ _ => rfl)) (pa_cons (pe_ix (show IxR _ (rIxL K) from ix_list) (pv 1) pe_int (fun _ _ => rfl)) (pa_cons (pe_ix (show IxR _ (rIxL K) from ix_list) (pv 1) pe_int (fun _ _ => rfl)) (pa_cons (pe_ix (show IxR _ (rIxL K) from ix_list) (pv 1) pe_int (fun _ _ => rfl)) pa_nil))))))))))) (fun a pn => (pss_one (ps_set (i := 2) sc_law_error.nd rfl (.inl rfl) (pv 3)))))
      (pss_one (ps_ret (pe_ifExp (pt_cmpR op_isN1 (pv 2) pe_non (nomark _)) pe_str (pe_callG k__law_kind (hr.mono (by omega)) pas0 (pa_cons (pv 2) pa_nil))))))), ?_⟩
  rw [show L2.start ["door", "rows", "caught", "e"] [.int door, .ref r] = [some (.int door), some (.ref r), none, none] from rfl]
  refine Tr.of ?_ l
  obtain ⟨R_hrow, P_hrow⟩ := Pick.of_mem hrow
  repeat walk_at "hz"
  obtain rfl | rfl | rfl | rfl : door = 0 ∨ door = 1 ∨ door = 2 ∨ door = 3 := by omega
  · repeat walk_at "hz"
    refine t_FV (F_lines_left _ (by omega)) ?_
    repeat walk_at "hz"
    rename_i p0
    have mo : ∀ {o : HO}, ∀ p ∈ L, p ∈ (p0, o) :: L := fun p hp => .tail _ hp
    refine use_lines_left (b := b0) (g := b4) (by rcases hv0 with ⟨a, xs, e, m, h⟩ | h; (· exact .inl ⟨a, xs, e, mo _ m, fun y hy => by obtain ⟨T, hT⟩ := h.1 y hy; exact ⟨T, hT.mono mo⟩, h.2⟩); (· obtain ⟨T, hT, h⟩ := h; exact .inr ⟨T, hT.mono mo, h⟩)) (fun e => by obtain ⟨a, ns, g1, g2, g3, g4, g5, g6⟩ := hg e; exact ⟨a, ns, g1, mo _ g2, g3, g6.mono mo⟩) (fun ⟨e0, e4⟩ p ns ms _ => ?_) (fun e => ?_) (fun e => ?_)
    · subst e0 e4
      repeat walk_at "hz"
      exact q.sub (by walk_at "sb")
    · subst e
      refine t_catch m_InvalidOutlineError_StickyHeadsError fun e0 => ?_
      repeat walk_at "hz"
      refine use_law_kind (k := 0) (by walk_at "mb") (.inl ⟨rfl, rfl⟩) ?_
      exact q.sub (by walk_at "sb")
    · obtain ⟨rfl, rfl⟩ := e
      refine t_catch m_InvalidFoldsError_StickyHeadsError fun e0 => ?_
      repeat walk_at "hz"
      refine use_law_kind (k := 3) (by walk_at "mb") (.inr (.inr (.inr ⟨rfl, rfl⟩))) ?_
      exact q.sub (by walk_at "sb")
  · repeat walk_at "hz"
    refine t_FV (F_folded_outline _ (by omega)) ?_
    repeat walk_at "hz"
    rename_i p0
    have mo : ∀ {o : HO}, ∀ p ∈ L, p ∈ (p0, o) :: L := fun p hp => .tail _ hp
    refine use_folded_outline (b := b0) (g := b4) (by rcases hv0 with ⟨a, xs, e, m, h⟩ | h; (· exact .inl ⟨a, xs, e, mo _ m, fun y hy => by obtain ⟨T, hT⟩ := h.1 y hy; exact ⟨T, hT.mono mo⟩, h.2⟩); (· obtain ⟨T, hT, h⟩ := h; exact .inr ⟨T, hT.mono mo, h⟩)) (fun e => by obtain ⟨a, ns, g1, g2, g3, g4, g5, g6⟩ := hg e; exact ⟨a, ns, g1, mo _ g2, g3, g6.mono mo⟩) (fun ⟨e0, e4⟩ z N => ?_) (fun e => ?_) (fun e => ?_)
    · subst e0 e4
      repeat walk_at "hz"
      exact q.sub (by walk_at "sb")
    · subst e
      refine t_catch m_InvalidOutlineError_StickyHeadsError fun e0 => ?_
      repeat walk_at "hz"
      refine use_law_kind (k := 0) (by walk_at "mb") (.inl ⟨rfl, rfl⟩) ?_
      exact q.sub (by walk_at "sb")
    · obtain ⟨rfl, rfl⟩ := e
      refine t_catch m_InvalidFoldsError_StickyHeadsError fun e0 => ?_
      repeat walk_at "hz"
      refine use_law_kind (k := 3) (by walk_at "mb") (.inr (.inr (.inr ⟨rfl, rfl⟩))) ?_
      exact q.sub (by walk_at "sb")
  · repeat walk_at "hz"
    refine t_FV (F_fewest_folds _ (by omega)) ?_
    repeat walk_at "hz"
    rename_i p0
    have mo : ∀ {o : HO}, ∀ p ∈ L, p ∈ (p0, o) :: L := fun p hp => .tail _ hp
    refine use_fewest_folds (b0 := b0) (b2 := b2) (b3 := b3) (by rcases hv0 with ⟨a, xs, e, m, h⟩ | h; (· exact .inl ⟨a, xs, e, mo _ m, fun y hy => by obtain ⟨T, hT⟩ := h.1 y hy; exact ⟨T, hT.mono mo⟩, h.2⟩); (· obtain ⟨T, hT, h⟩ := h; exact .inr ⟨T, hT.mono mo, h⟩)) (ht1.mono mo) (ht2.mono mo) (ht3.mono mo) (fun e => by obtain ⟨a, ns, g1, g2, g3, g4, g5, g6⟩ := hg e; exact ⟨a, ns, g1, mo _ g2, g3, g4, g5⟩) (fun ⟨e0, e1, e2, e3⟩ z => ?_) (fun e => ?_) (fun e => ?_) (fun e => ?_)
    · rw [hb1] at e1
      subst e0 e1 e2 e3
      repeat walk_at "hz"
      exact q.sub (by walk_at "sb")
    · subst e
      refine t_catch m_InvalidOutlineError_StickyHeadsError fun e0 => ?_
      repeat walk_at "hz"
      refine use_law_kind (k := 0) (by walk_at "mb") (.inl ⟨rfl, rfl⟩) ?_
      exact q.sub (by walk_at "sb")
    · rw [hb1] at e
      obtain ⟨rfl, rfl⟩ := e
      refine t_catch m_InvalidHeightError_StickyHeadsError fun e0 => ?_
      repeat walk_at "hz"
      refine use_law_kind (k := 1) (by walk_at "mb") (.inr (.inl ⟨rfl, rfl⟩)) ?_
      exact q.sub (by walk_at "sb")
    · rw [hb1] at e
      obtain ⟨rfl, rfl, e⟩ := e
      have ed : dueW (decide ((2 : Int) < 2)) true true b2 b3 b4 = "line" := by rcases e with rfl | rfl; (· cases b3 <;> rfl); (· cases b2 <;> rfl)
      rw [ed] at q
      refine t_catch m_InvalidLineError_StickyHeadsError fun e0 => ?_
      repeat walk_at "hz"
      refine use_law_kind (k := 2) (by walk_at "mb") (.inr (.inr (.inl ⟨rfl, rfl⟩))) ?_
      exact q.sub (by walk_at "sb")
  · repeat walk_at "hz"
    refine t_FV (F_folds_to_show _ (by omega)) ?_
    repeat walk_at "hz"
    rename_i p0
    have mo : ∀ {o : HO}, ∀ p ∈ L, p ∈ (p0, o) :: L := fun p hp => .tail _ hp
    refine use_folds_to_show (b0 := b0) (b2 := b2) (b3 := b3) (by rcases hv0 with ⟨a, xs, e, m, h⟩ | h; (· exact .inl ⟨a, xs, e, mo _ m, fun y hy => by obtain ⟨T, hT⟩ := h.1 y hy; exact ⟨T, hT.mono mo⟩, h.2⟩); (· obtain ⟨T, hT, h⟩ := h; exact .inr ⟨T, hT.mono mo, h⟩)) (ht1.mono mo) (ht2.mono mo) (ht3.mono mo) (fun e => by obtain ⟨a, ns, g1, g2, g3, g4, g5, g6⟩ := hg e; exact ⟨a, ns, g1, mo _ g2, g3, g4, g5⟩) (fun ⟨e0, e1, e2, e3⟩ z N _ => ?_) (fun e => ?_) (fun e => ?_) (fun e => ?_)
    · rw [hb1] at e1
      subst e0 e1 e2 e3
      repeat walk_at "hz"
      exact q.sub (by walk_at "sb")
    · subst e
      refine t_catch m_InvalidOutlineError_StickyHeadsError fun e0 => ?_
      repeat walk_at "hz"
      refine use_law_kind (k := 0) (by walk_at "mb") (.inl ⟨rfl, rfl⟩) ?_
      exact q.sub (by walk_at "sb")
    · rw [hb1] at e
      obtain ⟨rfl, rfl⟩ := e
      refine t_catch m_InvalidHeightError_StickyHeadsError fun e0 => ?_
      repeat walk_at "hz"
      refine use_law_kind (k := 1) (by walk_at "mb") (.inr (.inl ⟨rfl, rfl⟩)) ?_
      exact q.sub (by walk_at "sb")
    · rw [hb1] at e
      obtain ⟨rfl, rfl, e⟩ := e
      have ed : dueW (decide ((3 : Int) < 2)) true true b2 b3 b4 = "line" := by rcases e with rfl | rfl; (· cases b3 <;> rfl); (· cases b2 <;> rfl)
      rw [ed] at q
      refine t_catch m_InvalidLineError_StickyHeadsError fun e0 => ?_
      repeat walk_at "hz"
      refine use_law_kind (k := 2) (by walk_at "mb") (.inr (.inr (.inl ⟨rfl, rfl⟩))) ?_
      exact q.sub (by walk_at "sb")

/-- a value with its data, small -/
def Small (M : Lg) (v : V) : Prop := ∃ d, Dv M v d ∧ Sz 2000000 5 d
theorem Small.mono {L M : Lg} {v : V} (h : Small L v) (s : ∀ p ∈ L, p ∈ M) : Small M v := by
  obtain ⟨d, h1, h2⟩ := h
  exact ⟨d, h1.mono s, h2⟩
theorem Small.ty {M : Lg} {v : V} (h : Small M v) : ∃ T, HasTy M v T := by
  obtain ⟨d, h1, _⟩ := h
  exact ⟨_, h1.ty⟩
theorem Small.int (M : Lg) {i : Int} (h : i.natAbs < 2 ^ 110) : Small M (.int i) := ⟨_, .int i, (sz_small h).le (by decide) (by decide)⟩
theorem Small.one {M : Lg} {p : Addr} {i : Int} (hp : (p, HO.lst [.int i]) ∈ M) (h : i.natAbs < 2 ^ 110) : Small M (.ref p) :=
  ⟨_, .lst hp (DvAll.ints [i]), (Sz.list (n := 1000) (k := 2) 1 (fun d hd => by rw [List.mem_singleton.mp hd]; exact sz_small h) (by simp)).le (by decide) (by decide)⟩
theorem Small.str0 (M : Lg) (s : String) (h : ∀ c ∈ (Str.ofString s).cps.toList, c < 16 ^ 8) (h2 : 10 * (Str.ofString s).cps.size + 8 ≤ 2000000) : Small M (.str (Str.ofString s)) := ⟨_, .str _, (Sz.str h).le h2 (by decide)⟩
theorem bad_h {M : Lg} {p : Addr} {v : V} (hp : (p, HO.lst [.int 1]) ∈ M) (h : v ∈ [V.int 0, .int 401, .int (-1), .bl true, .non, .str "1", .ref p, .int 1000000000000000000000000000000]) : htV v = false ∧ Small M v := by
  simp only [List.mem_cons, List.not_mem_nil, or_false] at h
  rcases h with rfl | rfl | rfl | rfl | rfl | rfl | rfl | rfl
  · exact ⟨by decide, .int _ (by decide)⟩
  · exact ⟨by decide, .int _ (by decide)⟩
  · exact ⟨by decide, .int _ (by decide)⟩
  · exact ⟨rfl, _, .bl _, (Sz.bool _).le (by decide) (by decide)⟩
  · exact ⟨rfl, _, .non, Sz.none.le (by decide) (by decide)⟩
  · exact ⟨rfl, .str0 _ _ (by decide) (by decide)⟩
  · exact ⟨rfl, .one hp (by decide)⟩
  · exact ⟨by decide, .int _ (by decide)⟩
theorem bad_l {M : Lg} {p : Addr} {v : V} {n : Int} (n0 : 0 ≤ n) (n1 : n ≤ 200) (hp : (p, HO.lst [.int 0]) ∈ M) (h : v ∈ [V.int (-1), .int n, .non, .bl true, .bl false, .str "0", .ref p, .int 1000000000000000000000000000000]) : rgV n v = false ∧ Small M v := by
  simp only [List.mem_cons, List.not_mem_nil, or_false] at h
  rcases h with rfl | rfl | rfl | rfl | rfl | rfl | rfl | rfl
  · exact ⟨by rw [rgV_int, decide_eq_false (by omega)]; rfl, .int _ (by decide)⟩
  · exact ⟨by rw [rgV_int, decide_eq_false (show ¬ n < n by omega), Bool.and_false], .int _ (by omega)⟩
  · exact ⟨rfl, _, .non, Sz.none.le (by decide) (by decide)⟩
  · exact ⟨rfl, _, .bl _, (Sz.bool _).le (by decide) (by decide)⟩
  · exact ⟨rfl, _, .bl _, (Sz.bool _).le (by decide) (by decide)⟩
  · exact ⟨rfl, .str0 _ _ (by decide) (by decide)⟩
  · exact ⟨rfl, .one hp (by decide)⟩
  · exact ⟨by rw [rgV_int, decide_eq_false (show ¬ (1000000000000000000000000000000 : Int) < n by omega), Bool.and_false], .int _ (by decide)⟩
def pickV (c : Bool) (x y : V) : V := if c = true then y else x
def sp_law_right (K : PySem.W.Frag) : Sp := fun vs H Q E => ∃ (z a : Addr) (zs : List Int) (o : HO) (L : Lg), vs = [.ref z, .ref a] ∧ Led H ((a, o) :: L) ∧ (Scr K L z zs) ∧ (Bag 0 o) ∧ Tr (L) (fun H => Q (.bl true) H)
theorem use_law_right {L0  L : Lg} {Q : VK} {E : XK} {z a : Addr} {zs : List Int} {o : HO} (hp0 : Pick (a) (o) L0 L) (hS : Scr K L z zs) (hs : Bag 0 o) (q : Tr (L) (fun H => Q (.bl true) H)) : Tr L0 fun H => sp_law_right K [.ref z, .ref a] H Q E :=
  fun H l => ⟨z, a, zs, o, L, rfl, l.pick hp0, hS, hs, q⟩

theorem ok_law_right (D : Df K mg "_law_right" s_law_right) (B : Blt mg) (k__law_draw : Ok P w K mg base CX0 1 "_law_draw" ["bag", "many"] sp_law_draw) (k__law_sized : Ok P w K mg base CX0 3 "_law_sized" ["script", "bag", "small", "great"] (sp_law_sized K)) (k__law_places : Ok P w K mg base CX0 2 "_law_places" ["bag", "depths", "odds"] sp_law_places) (k__law_no_outline : Ok P w K mg base CX0 2 "_law_no_outline" ["bag", "depths"] sp_law_no_outline) (k__law_no_folds : Ok P w K mg base CX0 2 "_law_no_folds" ["bag", "depths", "marks"] sp_law_no_folds) (k__law_error : Ok P w K mg base CX0 6 "_law_error" ["door", "rows"] sp_law_error) : Ok P w K mg base CX0 7 "_law_right" ["script", "bag"] (sp_law_right K) := by
  obtain ⟨f, fd, hm, F⟩ := D
  refine ⟨f, fd, hm, F.kp, F.binds (fun _ _ _ _ _ _ us hl => match us, hl with | [_, _], _ => rfl), FunOkG F sc_law_right (fun vs H Q E h => ?_) (fun cdv A outer s H vs Q E hr h => ?_), F.lk⟩
  · obtain ⟨_, _, _, _, _, rfl, _⟩ := h; rfl
  obtain ⟨z, a, zs, o, L, rfl, l, hS, hs, q⟩ := h
  refine ⟨_, PSs.nox (pss_cons (ps_set (i := 2) sc_law_right.nd rfl (.inl rfl) (pe_callG k__law_sized (hr.mono (by omega)) pas0 (pa_cons (pv 0) (pa_cons (pv 1) (pa_cons pe_int (pa_cons pe_int pa_nil))))))
      (pss_cons (ps_set (i := 3) sc_law_right.nd rfl (.inl rfl) (pe_callG k__law_places (hr.mono (by omega)) pas0 (pa_cons (pv 1) (pa_cons (pv 2) (pa_cons (pe_ifExp (pt_cmpR (op_eqD hr.rm.units) (pv 0) (pe_lst pa_nil) (nomark _)) pe_int (pe_op op_add pe_int (pe_callG k__law_draw (hr.mono (by omega)) pas0 (pa_cons (pv 1) (pa_cons pe_int pa_nil))))) pa_nil)))))
      (pss_cons (ps_set (i := 4) sc_law_right.nd rfl (.inl rfl) (pe_lst (pa_cons (pv 2) (pa_cons (pe_op op_add pe_int (pe_callG k__law_draw (hr.mono (by omega)) pas0 (pa_cons (pv 1) (pa_cons pe_int pa_nil)))) (pa_cons (pe_callG k__law_draw (hr.mono (by omega)) pas0 (pa_cons (pv 1) (pa_cons (pe_callB c_len rfl B.len_ boot_len (pa_cons (pv 2) pa_nil)) pa_nil))) (pa_cons (pe_callG k__law_draw (hr.mono (by omega)) pas0 (pa_cons (pv 1) (pa_cons (pe_callB c_len rfl B.len_ boot_len (pa_cons (pv 2) pa_nil)) pa_nil))) (pa_cons (pv 3) pa_nil)))))))
      (pss_cons (ps_for PassesOwn.never rfl (pi_range1 rfl B.range_ (pa_cons pe_int pa_nil)) (pg_name (i := 5) sc_law_right.nd rfl (.inl rfl))
        (pss_cons (ps_set (i := 6) sc_law_right.nd rfl (.inl rfl) (pe_lst (pa_cons (pe_un un_neg pe_int) (pa_cons (pe_callB c_len rfl B.len_ boot_len (pa_cons (pv 2) pa_nil)) (pa_cons pe_non (pa_cons pe_bl (pa_cons pe_bl (pa_cons pe_str (pa_cons (pe_lst (pa_cons pe_int pa_nil)) (pa_cons (pe_op op_powW pe_int pe_int) pa_nil))))))))))
      (pss_cons (ps_set (i := 7) sc_law_right.nd rfl (.inl rfl) (pe_lst (pa_cons (pe_callG k__law_no_outline (hr.mono (by omega)) pas0 (pa_cons (pv 1) (pa_cons (pv 2) pa_nil))) (pa_cons (pe_ix ix_list (pe_lst (pa_cons pe_int (pa_cons pe_int (pa_cons (pe_un un_neg pe_int) (pa_cons pe_bl (pa_cons pe_non (pa_cons pe_str (pa_cons (pe_lst (pa_cons pe_int pa_nil)) (pa_cons (pe_op op_powW pe_int pe_int) pa_nil))))))))) (pe_callG k__law_draw (hr.mono (by omega)) pas0 (pa_cons (pv 1) (pa_cons pe_int pa_nil))) (fun _ _ => rfl)) pa_nil))))
      (pss_cons (ps_set (i := 7) sc_law_right.nd rfl (.inl rfl) (pe_op op_cat (pv 7) (pe_lst (pa_cons (pe_ix ix_list (pv 6) (pe_callG k__law_draw (hr.mono (by omega)) pas0 (pa_cons (pv 1) (pa_cons pe_int pa_nil))) (fun _ _ => rfl)) (pa_cons (pe_ix ix_list (pv 6) (pe_callG k__law_draw (hr.mono (by omega)) pas0 (pa_cons (pv 1) (pa_cons pe_int pa_nil))) (fun _ _ => rfl)) (pa_cons (pe_callG k__law_no_folds (hr.mono (by omega)) pas0 (pa_cons (pv 1) (pa_cons (pv 2) (pa_cons (pv 3) pa_nil)))) pa_nil))))))
      (pss_cons (ps_set (i := 8) sc_law_right.nd rfl (.inr rfl) (pe_lc (own := [("spot", 9)]) (g := gName 9) (by rfl) sc_law_right.nd (pi_range1 rfl B.range_ (pa_cons pe_int pa_nil)) (blkOk_by (own := [("spot", 9)]) (N := ["script", "bag", "depths", "marks", "good", "turn", "far", "bad", "is_bad", "spot", "rows", "one", "two", "so", "kept", "words", "door", "order", "due"]) (sc := defScope s_law_right) (by decide +kernel)) (fun _ _ _ _ _ => (pg_name (i := 9) sc_law_right.nd rfl (.inl rfl))) (fun _ _ _ _ _ => pts_nil) (fun _ _ _ _ _ => (pe_cmpR op_eq (pe_callG k__law_draw (hr.mono (by omega)) pas0 (pa_cons (pv 1) (pa_cons pe_int pa_nil))) pe_int (nomark _)))))
      (pss_cons (ps_setLc (i := 10) (own := [("one", 11), ("two", 12), ("so", 13)]) (g := gTup _ 3 (gCons (gName 11) (gCons (gName 12) (gCons (gName 13) (gNil))))) (by rfl) sc_law_right.nd rfl rfl (sw_true rfl rfl rfl (by decide +kernel)) (pi_zip3 (by rfl) B.zip_ (pa_cons (pv 4) (pa_cons (pv 7) (pa_cons (pv 8) pa_nil)))) (blkOk_by (own := [("one", 11), ("two", 12), ("so", 13)]) (N := ["script", "bag", "depths", "marks", "good", "turn", "far", "bad", "is_bad", "spot", "rows", "one", "two", "so", "kept", "words", "door", "order", "due"]) (sc := defScope s_law_right) (by decide +kernel)) (fun _ _ _ _ _ => (pg_tup rfl (pgs_cons (pg_name (i := 11) sc_law_right.nd rfl (.inl rfl)) (pgs_cons (pg_name (i := 12) sc_law_right.nd rfl (.inl rfl)) (pgs_cons (pg_name (i := 13) sc_law_right.nd rfl (.inl rfl)) pgs_nil))))) (fun _ _ _ _ _ => pts_nil) (fun _ _ _ _ _ => (pe_ix (show IxR _ (rIxL K) from ix_list) (pe_lst (pa_cons (pv 11) (pa_cons (pv 12) pa_nil))) (pe_callTy c_int rfl B.int_ boot_int (pa_cons (pv 13) pa_nil)) (fun _ _ => rfl))))
      (pss_cons (ps_set (i := 14) sc_law_right.nd rfl (.inl rfl) (pe_callB (call_reprV hr.gd hr.rm.units) rfl B.repr_ boot_repr (pa_cons (pv 10) pa_nil)))
      (pss_cons (ps_set (i := 15) sc_law_right.nd rfl (.inr rfl) (pe_lst (pa_cons pe_str (pa_cons pe_str (pa_cons pe_str (pa_cons pe_str (pa_cons pe_str pa_nil)))))))
      (pss_one (ps_for PassesOwn.never rfl (pi_range1 rfl B.range_ (pa_cons pe_int pa_nil)) (pg_name (i := 16) sc_law_right.nd rfl (.inl rfl))
        (pss_cons (ps_set (i := 17) sc_law_right.nd rfl (.inl rfl) (pe_ix ix_list (pe_lst (pa_cons (pe_lst (pa_cons pe_int (pa_cons pe_int pa_nil))) (pa_cons (pe_lst (pa_cons pe_int (pa_cons pe_int (pa_cons pe_int (pa_cons pe_int pa_nil))))) pa_nil))) (pe_callTy c_int rfl B.int_ boot_int (pa_cons (pe_cmpR op_gt (pv 16) pe_int (nomark _)) pa_nil)) (fun _ _ => rfl)))
      (pss_cons (ps_set (i := 18) sc_law_right.nd rfl (.inl rfl) (pe_op op_cat (pe_lc (own := [("spot", 9)]) (g := gName 9) (by rfl) sc_law_right.nd (pi_list (pv 17)) (blkOk_by (own := [("spot", 9)]) (N := ["script", "bag", "depths", "marks", "good", "turn", "far", "bad", "is_bad", "spot", "rows", "one", "two", "so", "kept", "words", "door", "order", "due"]) (sc := defScope s_law_right) (by decide +kernel)) (fun _ _ _ _ _ => (pg_name (i := 9) sc_law_right.nd rfl (.inl rfl))) (fun _ _ _ _ _ => (pts_one (pt_val (pe_ix (show IxR _ (rIxL K) from ix_list) (pv 8) (pv 9) (fun _ _ => rfl))))) (fun _ _ _ _ _ => (pe_ix (show IxR _ (rIxL K) from ix_list) (pv 15) (pv 9) (fun _ _ => rfl)))) (pe_lst (pa_cons pe_str pa_nil))))
      (pss_one (ps_if (PW.pt (pw_or (pt_cmpR op_ne (pe_callG k__law_error (hr.mono (by omega)) pas0 (pa_cons (pv 16) (pa_cons (pv 10) pa_nil))) (pe_ix ix_list (pv 18) pe_int (fun _ _ => rfl)) (nomark _)) (pw_or1 (pt_cmpR op_ne (pe_callB (call_reprV hr.gd hr.rm.units) rfl B.repr_ boot_repr (pa_cons (pv 10) pa_nil)) (pv 14) (nomark _))))) (pss_one (ps_ret pe_bl))
        pss_nil))))))))))))))
      (pss_one (ps_ret pe_bl)))))), ?_⟩
  rw [show L2.start ["script", "bag", "depths", "marks", "good", "turn", "far", "bad", "is_bad", "spot", "rows", "one", "two", "so", "kept", "words", "door", "order", "due"] [.ref z, .ref a] = [some (.ref z), some (.ref a), none, none, none, none, none, none, none, none, none, none, none, none, none, none, none, none, none] from rfl]
  refine Tr.of ?_ l
  repeat walk_at "hz"
  refine use_law_sized (by walk_at "pk") hS hs (by omega) (by omega) (by omega) (by omega) fun ns p o1 ho hn hs => ?_
  have hnl := ho.len
  repeat walk_at "hz"
  refine t_eqSc (zs := []) hS.cons.cons.cons (by walk_at "mb") ?_
  rename_i e0
  refine' t_joinI (fun o => (e0, .lst []) :: (p, .lst (ns.map V.int)) :: (a, o) :: L) (fun i o => 1 ≤ i ∧ i ≤ 40 ∧ Bag 1100 o) (fun join => ?k) ?main
  case k =>
    repeat walk_at "hz"
    refine t_iteD (fun h => ?c1) fun h => ?c2
    case c2 =>
      repeat walk_at "hz"
      refine use_law_draw (by walk_at "pk") hs (by omega) (by omega) (by omega) fun d1 o_d1 d1l d1h hs => ?_
      repeat walk_at "hz"
      repeat walk_at "hz"
      obtain ⟨dd, hdd⟩ : ∃ dd, dd = 1 + d1 := ⟨_, rfl⟩
      rw [← hdd]
      exact join dd _ _ ⟨by omega, by omega, hs.le (by omega)⟩ (by walk_at "sb")
    case c1 =>
      repeat walk_at "hz"
      exact join 3 _ _ ⟨by omega, by omega, hs.le (by omega)⟩ (by walk_at "sb")
  case main =>
    intro i o ⟨i0, i1, hs⟩
    repeat walk_at "hz"
    refine use_law_places (by walk_at "pk") (by walk_at "mb") (by omega) (by omega) (by omega) hs (by omega) fun b ms o hf hs => ?_
    have ml := hf.len
    repeat walk_at "hz"
    refine use_law_draw (by walk_at "pk") hs (by omega) (by omega) (by omega) fun g1 o_g1 g1l g1h hs => ?_
    repeat walk_at "hz"
    repeat walk_at "hz"
    refine use_law_draw (by walk_at "pk") hs (by omega) (by omega) (by omega) fun g2 o_g2 g2l g2h hs => ?_
    repeat walk_at "hz"
    repeat walk_at "hz"
    refine use_law_draw (by walk_at "pk") hs (by omega) (by omega) (by omega) fun g3 o_g3 g3l g3h hs => ?_
    repeat walk_at "hz"
    repeat walk_at "hz"
    rename_i gp
    have hs9 : Bag 1600 o_g3 := hs.le (by omega)
    refine t_gen (α := Lg) (fun L1 => (gp, .lst [.ref p, .int (1 + g1), .int g2, .int g3, .ref b]) :: (b, .lst (ms.map V.int)) :: (p, .lst (ns.map V.int)) :: (a, o_g3) :: L1) (fun L1 => Tr L1 fun H => Q (.bl true) H) _ ?_ (by walk_at "sb") ?_
    · exact q.sub (by walk_at "sb")
    clear q hS hs
    rintro L1 q
    refine t_forK wk_range (fun t ((o, j5, j6, j7, j8, j9, j10, j11, j12, j13, j14, j15, j16, j17, j18) : HO × Option V × Option V × Option V × Option V × Option V × Option V × Option V × Option V × Option V × Option V × Option V × Option V × Option V × Option V) => [some (.ref z), some (.ref a), some (.ref p), some (.ref b), some (.ref gp), j5, j6, j7, j8, j9, j10, j11, j12, j13, j14, j15, j16, j17, j18]) (fun t ((o, j5, j6, j7, j8, j9, j10, j11, j12, j13, j14, j15, j16, j17, j18) : HO × Option V × Option V × Option V × Option V × Option V × Option V × Option V × Option V × Option V × Option V × Option V × Option V × Option V × Option V) => (gp, .lst [.ref p, .int (1 + g1), .int g2, .int g3, .ref b]) :: (b, .lst (ms.map V.int)) :: (p, .lst (ns.map V.int)) :: (a, o) :: L1) (fun t ((o, j5, j6, j7, j8, j9, j10, j11, j12, j13, j14, j15, j16, j17, j18) : HO × Option V × Option V × Option V × Option V × Option V × Option V × Option V × Option V × Option V × Option V × Option V × Option V × Option V × Option V) => Bag (1600 + 600 * t) o) ⟨(o_g3, _, _, _, _, _, _, _, _, _, _, _, _, _, _), hs9, rfl, (by walk_at "sb")⟩ (fun _ _ _ => trivial) ?_ ?_
    · rintro t ⟨o, j5, j6, j7, j8, j9, j10, j11, j12, j13, j14, j15, j16, j17, j18⟩ v L' ht hs ⟨rfl, rfl⟩
      try dsimp only at hs ⊢
      simp only [List.nil_append, List.cons_append]
      repeat walk_at "hz"
      refine t_rI (pow_ok 5 (by decide) (by decide) (by decide) (by decide)) ?_
      rw [show (10 : Int) ^ (30 : Int).toNat = 1000000000000000000000000000000 by decide]
      repeat walk_at "hz"
      repeat walk_at "hz"
      rename_i fl fp
      refine use_law_no_outline (by walk_at "pk") (by walk_at "mb") ho hs (by omega) fun bv db N1 o2 hbv bsz bout hs => ?_
      repeat walk_at "hz"
      refine t_rI (pow_ok 5 (by decide) (by decide) (by decide) (by decide)) ?_
      rw [show (10 : Int) ^ (30 : Int).toNat = 1000000000000000000000000000000 by decide]
      repeat walk_at "hz"
      repeat walk_at "hz"
      rename_i hl0 hp0
      refine use_law_draw (by walk_at "pk") hs (by omega) (by omega) (by omega) fun e1 o_e1 e1l e1h hs => ?_
      repeat walk_at "hz"
      obtain ⟨hv, hhv, hvm⟩ := at_memV (xs := [V.int 0, .int 401, .int (-1), .bl true, .non, .str "1", .ref hl0, .int 1000000000000000000000000000000]) e1l (by simpa using e1h)
      refine t_ixL (by walk_at "pk") hhv ?_
      repeat walk_at "hz"
      refine use_law_draw (by walk_at "pk") hs (by omega) (by omega) (by omega) fun e2 o_e2 e2l e2h hs => ?_
      repeat walk_at "hz"
      obtain ⟨f1, hf1, f1m⟩ := at_memV (xs := [V.int (-1), .int ns.length, .non, .bl true, .bl false, .str "0", .ref fl, .int 1000000000000000000000000000000]) e2l (by simpa using e2h)
      refine t_ixL (by walk_at "pk") hf1 ?_
      repeat walk_at "hz"
      refine use_law_draw (by walk_at "pk") hs (by omega) (by omega) (by omega) fun e3 o_e3 e3l e3h hs => ?_
      repeat walk_at "hz"
      obtain ⟨f2, hf2, f2m⟩ := at_memV (xs := [V.int (-1), .int ns.length, .non, .bl true, .bl false, .str "0", .ref fl, .int 1000000000000000000000000000000]) e3l (by simpa using e3h)
      refine t_ixL (by walk_at "pk") hf2 ?_
      repeat walk_at "hz"
      refine use_law_no_folds (by walk_at "pk") (by walk_at "mb") (by walk_at "mb") ho hf hs (by omega) fun wv dw N2 o4 hwv wbad wsz hs => ?_
      repeat walk_at "hz"
      rename_i bq bp
      have hs5 : Bag (1600 + 600 * t + 100) o4 := hs.le (by omega)
      refine Tr.pick (a := a) (o := o4) (by walk_at "pk") ?_
      refine t_gen (α := Lg) (fun M => (a, o4) :: M) (fun M => ((gp, HO.lst [.ref p, .int (1 + g1), .int g2, .int g3, .ref b]) ∈ M ∧ (bp, HO.lst [bv, hv, f1, f2, wv]) ∈ M ∧ (p, HO.lst (ns.map V.int)) ∈ M ∧ (b, HO.lst (ms.map V.int)) ∈ M) ∧ Dv M bv db ∧ (htV hv = false ∧ Small M hv) ∧ (rgV ns.length f1 = false ∧ Small M f1) ∧ (rgV ns.length f2 = false ∧ Small M f2) ∧ (FoldIs M ns.length wv false ∧ Small M wv) ∧
        Sub M ((gp, .lst [.ref p, .int (1 + g1), .int g2, .int g3, .ref b]) :: (b, .lst (ms.map V.int)) :: (p, .lst (ns.map V.int)) :: L1)) _ ⟨⟨(by walk_at "mb"), (by walk_at "mb"), (by walk_at "mb"), (by walk_at "mb")⟩, ?_, bad_h (by walk_at "mb") hvm, bad_l (by omega) (by omega) (by walk_at "mb") f1m, bad_l (by omega) (by omega) (by walk_at "mb") f2m, ⟨?_, dw, ?_, wsz⟩, (by walk_at "sb")⟩ .refl ?_
      · exact hbv.mono fun q h => by walk_at "mb"
      · exact wbad.mono fun q h => by
          simp only [List.mem_append, List.mem_cons] at h ⊢
          rcases h with h | h | h | h | h | h | h | h | h | h | h <;> simp [h]
      · exact hwv.mono fun q h => by
          simp only [List.mem_append, List.mem_cons] at h ⊢
          rcases h with h | h | h | h | h | h | h | h | h | h | h <;> simp [h]
      clear hbv wbad hwv hs
      rintro M ⟨⟨mg, mb, mp, mm⟩, hbv, ⟨hvb, hvs⟩, ⟨f1b, f1s⟩, ⟨f2b, f2s⟩, ⟨wvb, wvs⟩, sub⟩
      refine t_lcK (wk_range) (by rfl) (fun i (y : List Bool × HO) => (a, y.2) :: M) (fun i y => y.1.map V.bl) (fun i y => y.1.length = i ∧ Bag (1600 + 600 * t + 100 + i) y.2) ⟨([], o4), ⟨rfl, hs5⟩, rfl, (by walk_at "sb")⟩ (fun D i y _ => trivial) ?_ ?_
      · rintro D i ⟨bs, o5⟩ v L' hi ⟨bl, hs⟩ ⟨rfl, rfl⟩
        dsimp only at bl hs ⊢
        rw [List.nil_append]
        repeat walk_at "hz"
        refine use_law_draw (by walk_at "pk") hs (by omega) (by omega) (by omega) fun e4 o_e4 e4l e4h hs => ?_
        repeat walk_at "hz"
        exact t_lcAdd (bs ++ [decide (e4 = 0)], o_e4) ⟨by simp [bl], hs⟩ (by walk_at "pk") (by rw [sizeLine_eq, List.length_map]; omega) (by rw [List.map_append]; rfl) (by walk_at "sb")
      · rintro D ⟨bs, o5⟩ ⟨bl, hs⟩
        dsimp only at bl hs ⊢
        obtain ⟨c0, c1, c2, c3, c4, rfl⟩ : ∃ c0 c1 c2 c3 c4, bs = [c0, c1, c2, c3, c4] := by
          match bs, bl with
          | [c0, c1, c2, c3, c4], _ => exact ⟨c0, c1, c2, c3, c4, rfl⟩
        obtain ⟨Rg, pg⟩ := Pick.of_mem mg
        obtain ⟨Rb, pb⟩ := Pick.of_mem mb
        repeat walk_at "hz"
        refine t_lcMap (wk_zip3 (xs := [V.ref p, .int (1 + g1), .int g2, .int g3, .ref b]) (ys := [bv, hv, f1, f2, wv]) (zs := [V.bl c0, .bl c1, .bl c2, .bl c3, .bl c4])) (by rfl) [pickV c0 (.ref p) bv, pickV c1 (.int (1 + g1)) hv, pickV c2 (.int g2) f1, pickV c3 (.int g3) f2, pickV c4 (.ref b) wv] (by simp) (fun x => ⟨⟨_, (by walk_at "pk")⟩, ⟨_, (by walk_at "pk")⟩, ⟨_, (by walk_at "pk")⟩⟩) ?_ ?_
        · rintro D2 i v L' hi ⟨T, xv, yv, zv, rfl, hxv, hyv, hzv, rfl⟩
          obtain ⟨c, rfl, hc⟩ : ∃ c, zv = .bl c ∧ [pickV c0 (.ref p) bv, pickV c1 (.int (1 + g1)) hv, pickV c2 (.int g2) f1, pickV c3 (.int g3) f2, pickV c4 (.ref b) wv][i]? = some (pickV c xv yv) := by
            have hi5 : i < 5 := by simpa using hi
            obtain rfl | rfl | rfl | rfl | rfl : i = 0 ∨ i = 1 ∨ i = 2 ∨ i = 3 ∨ i = 4 := by omega
            all_goals (cases hxv; cases hyv; cases hzv; exact ⟨_, rfl, rfl⟩)
          rw [List.cons_append, List.nil_append]
          cases c with
          | true =>
            repeat walk_at "hz"
            exact t_lcMp (by walk_at "pk") hc (by rw [sizeLine_eq]; simp) (by walk_at "sb")
          | false =>
            repeat walk_at "hz"
            exact t_lcMp (by walk_at "pk") hc (by rw [sizeLine_eq]; simp) (by walk_at "sb")
        intro D2
        repeat walk_at "hz"
        have sd : Small M (.ref p) := ⟨_, .ints mp, (Sz.ints 30 200 (by decide) (by decide) (sz_depths ho) hnl.2).le (by decide) (by decide)⟩
        have sf : Small M (.ref b) := ⟨_, .ints mm, (Sz.ints 30 200 (by decide) (by decide) (fun k hk => by have := hf.rg k hk; omega) (by omega)).le (by decide) (by decide)⟩
        have s0 : Small M (pickV c0 (.ref p) bv) := by cases c0; (· exact sd); exact ⟨db, hbv, bsz⟩
        have s1 : Small M (pickV c1 (.int (1 + g1)) hv) := by cases c1; (· exact .int _ (by omega)); exact hvs
        have s2 : Small M (pickV c2 (.int g2) f1) := by cases c2; (· exact .int _ (by omega)); exact f1s
        have s3 : Small M (pickV c3 (.int g3) f2) := by cases c3; (· exact .int _ (by omega)); exact f2s
        have s4 : Small M (pickV c4 (.ref b) wv) := by cases c4; (· exact sf); exact wvs
        have o0 : OutIs M (pickV c0 (.ref p) bv) (!c0) := by
          cases c0
          · exact (by rw [← show outV (ns.map V.int) = true from ho]; exact outIs_ints mp : OutIs M (.ref p) true)
          · exact (by rw [← bout]; exact hbv.outIs : OutIs M bv false)
        have w1 : htV (pickV c1 (.int (1 + g1)) hv) = !c1 := by
          cases c1
          · show htV (.int (1 + g1)) = true
            rw [htV_int, decide_eq_true (by omega), decide_eq_true (by omega)]; rfl
          · exact hvb
        have w2 : rgV ns.length (pickV c2 (.int g2) f1) = !c2 := by
          cases c2
          · show rgV ns.length (.int g2) = true
            rw [rgV_int, decide_eq_true (by omega), decide_eq_true (by omega)]; rfl
          · exact f1b
        have w3 : rgV ns.length (pickV c3 (.int g3) f2) = !c3 := by
          cases c3
          · show rgV ns.length (.int g3) = true
            rw [rgV_int, decide_eq_true (by omega), decide_eq_true (by omega)]; rfl
          · exact f2b
        have w4 : FoldIs M ns.length (pickV c4 (.ref b) wv) (!c4) := by
          cases c4
          · exact .good mm hf
          · exact wvb
        have v0 : (!c0) = true → pickV c0 (.ref p) bv = .ref p := fun h => by cases c0; (· rfl); cases h
        generalize pickV c0 (.ref p) bv = u0 at s0 o0 v0 ⊢
        generalize pickV c1 (.int (1 + g1)) hv = u1 at s1 w1 ⊢
        generalize pickV c2 (.int g2) f1 = u2 at s2 w2 ⊢
        generalize pickV c3 (.int g3) f2 = u3 at s3 w3 ⊢
        generalize pickV c4 (.ref b) wv = u4 at s4 w4 ⊢
        obtain ⟨T1, t1⟩ := s1.ty
        obtain ⟨T2, t2⟩ := s2.ty
        obtain ⟨T3, t3⟩ := s3.ty
        obtain ⟨d0, a0, z0⟩ := s0
        obtain ⟨d1, a1, z1⟩ := s1
        obtain ⟨d2, a2, z2⟩ := s2
        obtain ⟨d3, a3, z3⟩ := s3
        obtain ⟨d4, a4, z4⟩ := s4
        have kd : ∀ {M2 : Lg}, (D2, HO.lst [u0, u1, u2, u3, u4]) ∈ M2 → (∀ q ∈ M, q ∈ M2) → Dv M2 (.ref D2) (.list [d0, d1, d2, d3, d4]) := fun m s =>
          .lst m (.cons (a0.mono s) (.cons (a1.mono s) (.cons (a2.mono s) (.cons (a3.mono s) (.cons (a4.mono s) .nil)))))
        have ks : Sz 11000000 6 (.list [d0, d1, d2, d3, d4]) := (Sz.list (n := 2000000) (k := 5) 5 (fun d hd => by
          simp only [List.mem_cons, List.not_mem_nil, or_false] at hd
          rcases hd with rfl | rfl | rfl | rfl | rfl
          · exact z0
          · exact z1
          · exact z2
          · exact z3
          · exact z4) (by simp)).le (by decide) (by decide)
        refine t_reprV (kd (by walk_at "mb") fun q h => by walk_at "mb") _ _ ks (by decide) (by decide) ?_
        obtain ⟨kept, hkept⟩ : ∃ k, k = PyData.shown (.list [d0, d1, d2, d3, d4]) := ⟨_, rfl⟩
        rw [← hkept]
        repeat walk_at "hz"
        rename_i wp
        refine t_forK wk_range (fun u ((t09, t011, t012, t013, t016, t017, t018) : Option V × Option V × Option V × Option V × Option V × Option V × Option V) => [some (.ref z), some (.ref a), some (.ref p), some (.ref b), some (.ref gp), some (.int (0 + t)), some (.ref fp), some (.ref bp), some (.ref D), t09, some (.ref D2), t011, t012, t013, some (.str kept), some (.ref wp), t016, t017, t018]) (fun u ((t09, t011, t012, t013, t016, t017, t018) : Option V × Option V × Option V × Option V × Option V × Option V × Option V) => (wp, .lst [.str "outline", .str "height", .str "line", .str "line", .str "folds"]) :: (D2, .lst [u0, u1, u2, u3, u4]) :: (D, .lst [.bl c0, .bl c1, .bl c2, .bl c3, .bl c4]) :: (a, o5) :: M) (fun u ((t09, t011, t012, t013, t016, t017, t018) : Option V × Option V × Option V × Option V × Option V × Option V × Option V) => True) ⟨(_, _, _, _, _, _, _), trivial, rfl, (by walk_at "sb")⟩ (fun _ _ _ => trivial) ?_ ?_
        · rintro u ⟨t09, t011, t012, t013, t016, t017, t018⟩ v L' hu - ⟨rfl, rfl⟩
          try dsimp only at  ⊢
          simp only [List.nil_append, List.cons_append]
          repeat walk_at "hz"
          by_cases c : 1 < (0 : Int) + (u : Int)
          · have ei : (if decide (1 < (0 : Int) + (u : Int)) = true then (1 : Int) else 0) = 1 := by rw [if_pos]; simpa using c
            rw [ei]
            repeat walk_at "hz"
            refine t_lcFil (wk_list (xs := [V.int 0, .int 1, .int 2, .int 3])) (by rfl) (fun k => [c0, c1, c2, c3].getD k false) (fun k => [V.str "outline", .str "height", .str "line", .str "line"].getD k .non) (fun x => ⟨_, (by walk_at "pk")⟩) ?_ ?_
            · rintro D3 k v L' hk ⟨hv, rfl⟩
              have hk2 : k < 4 := by simpa using hk
              obtain rfl | rfl | rfl | rfl : k = 0 ∨ k = 1 ∨ k = 2 ∨ k = 3 := by omega
              all_goals
                cases hv
                rw [List.nil_append]
                repeat walk_at "hz"
                refine t_ite (fun h => ?_) fun h => ?_
                · repeat walk_at "hz"
                  exact t_lcFlA (n := 10) (by omega) (by decide) h rfl (by walk_at "pk") (by walk_at "sb")
                · repeat walk_at "hz"
                  exact t_lcFlS h (by walk_at "pk") (by walk_at "sb")
            intro D3
            repeat walk_at "hz"
            refine t_cat (by walk_at "pk") (by walk_at "pk") (by
              have := fl_len (fun k => [c0, c1, c2, c3].getD k false) (fun k => [V.str "outline", .str "height", .str "line", .str "line"].getD k V.non) 4
              rw [sizeLine_eq]
              show _ + 1 ≤ 16777216
              exact Nat.le_trans (Nat.add_le_add_right this 1) (by decide)) fun D4 => ?_
            repeat walk_at "hz"
            refine use_law_error (v0 := u0) (v1 := u1) (v2 := u2) (v3 := u3) (v4 := u4) (b0 := !c0) (b1 := !c1) (b2 := !c2) (b3 := !c3) (b4 := !c4) (by omega) (by omega) (by walk_at "mb") (by rcases o0 with ⟨a, xs, e, m, h⟩ | h; (· exact .inl ⟨a, xs, e, by walk_at "mb", fun y hy => by obtain ⟨T, hT⟩ := h.1 y hy; exact ⟨T, hT.mono fun q h => by walk_at "mb"⟩, h.2⟩); (· obtain ⟨T, hT, h⟩ := h; exact .inr ⟨T, hT.mono fun q h => by walk_at "mb", h⟩)) (t1.mono fun q h => by walk_at "mb") (t2.mono fun q h => by walk_at "mb") (t3.mono fun q h => by walk_at "mb") w1 (fun e => ⟨p, ns, v0 e, by walk_at "mb", ho, w2, w3, w4.mono fun q h => by walk_at "mb"⟩) ?_
            repeat walk_at "hz"
            have due : atI (Hz.fl (fun k => [c0, c1, c2, c3].getD k false) (fun k => [V.str "outline", .str "height", .str "line", .str "line"].getD k V.non) 4 ++ [V.str "none"]) 0 = some (.str (Str.ofString (dueW (decide ((0 : Int) + (u : Int) < 2)) (!c0) (!c1) (!c2) (!c3) (!c4)))) := by
              rw [decide_eq_false (show ¬ (0 : Int) + (u : Int) < 2 by omega)]
              cases c0 <;> cases c1 <;> cases c2 <;> cases c3 <;> rfl
            refine t_ixL (by walk_at "pk") due ?_
            repeat walk_at "hz"
            refine t_reprV (kd (by walk_at "mb") fun q h => by walk_at "mb") _ _ ks (by decide) (by decide) ?_
            rw [← hkept]
            repeat walk_at "hz"
            refine t_pst (_, _, _, _, _, _, _) trivial rfl (by walk_at "sb")
          · have ei : (if decide (1 < (0 : Int) + (u : Int)) = true then (1 : Int) else 0) = 0 := by rw [if_neg]; simpa using c
            rw [ei]
            repeat walk_at "hz"
            refine t_lcFil (wk_list (xs := [V.int 0, .int 4])) (by rfl) (fun k => [c0, c4].getD k false) (fun k => [V.str "outline", .str "folds"].getD k .non) (fun x => ⟨_, (by walk_at "pk")⟩) ?_ ?_
            · rintro D3 k v L' hk ⟨hv, rfl⟩
              have hk2 : k < 2 := by simpa using hk
              obtain rfl | rfl : k = 0 ∨ k = 1 := by omega
              all_goals
                cases hv
                rw [List.nil_append]
                repeat walk_at "hz"
                refine t_ite (fun h => ?_) fun h => ?_
                · repeat walk_at "hz"
                  exact t_lcFlA (n := 10) (by omega) (by decide) h rfl (by walk_at "pk") (by walk_at "sb")
                · repeat walk_at "hz"
                  exact t_lcFlS h (by walk_at "pk") (by walk_at "sb")
            intro D3
            repeat walk_at "hz"
            refine t_cat (by walk_at "pk") (by walk_at "pk") (by
              have := fl_len (fun k => [c0, c4].getD k false) (fun k => [V.str "outline", .str "folds"].getD k V.non) 2
              rw [sizeLine_eq]
              show _ + 1 ≤ 16777216
              exact Nat.le_trans (Nat.add_le_add_right this 1) (by decide)) fun D4 => ?_
            repeat walk_at "hz"
            refine use_law_error (v0 := u0) (v1 := u1) (v2 := u2) (v3 := u3) (v4 := u4) (b0 := !c0) (b1 := !c1) (b2 := !c2) (b3 := !c3) (b4 := !c4) (by omega) (by omega) (by walk_at "mb") (by rcases o0 with ⟨a, xs, e, m, h⟩ | h; (· exact .inl ⟨a, xs, e, by walk_at "mb", fun y hy => by obtain ⟨T, hT⟩ := h.1 y hy; exact ⟨T, hT.mono fun q h => by walk_at "mb"⟩, h.2⟩); (· obtain ⟨T, hT, h⟩ := h; exact .inr ⟨T, hT.mono fun q h => by walk_at "mb", h⟩)) (t1.mono fun q h => by walk_at "mb") (t2.mono fun q h => by walk_at "mb") (t3.mono fun q h => by walk_at "mb") w1 (fun e => ⟨p, ns, v0 e, by walk_at "mb", ho, w2, w3, w4.mono fun q h => by walk_at "mb"⟩) ?_
            repeat walk_at "hz"
            have due : atI (Hz.fl (fun k => [c0, c4].getD k false) (fun k => [V.str "outline", .str "folds"].getD k V.non) 2 ++ [V.str "none"]) 0 = some (.str (Str.ofString (dueW (decide ((0 : Int) + (u : Int) < 2)) (!c0) (!c1) (!c2) (!c3) (!c4)))) := by
              rw [decide_eq_true (show (0 : Int) + (u : Int) < 2 by omega)]
              cases c0 <;> cases c4 <;> rfl
            refine t_ixL (by walk_at "pk") due ?_
            repeat walk_at "hz"
            refine t_reprV (kd (by walk_at "mb") fun q h => by walk_at "mb") _ _ ks (by decide) (by decide) ?_
            rw [← hkept]
            repeat walk_at "hz"
            refine t_pst (_, _, _, _, _, _, _) trivial rfl (by walk_at "sb")
        · rintro ⟨t09, t011, t012, t013, t016, t017, t018⟩ -
          try dsimp only at  ⊢
          repeat walk_at "hz"
          refine Tr.sub ?_ (Sub.drop (Sub.drop (Sub.drop (Sub.take .head sub))))
          refine t_pst (o5, _, _, _, _, _, _, _, _, _, _, _, _, _, _) (hs.le (by omega)) rfl (by walk_at "sb")
    · rintro ⟨o, j5, j6, j7, j8, j9, j10, j11, j12, j13, j14, j15, j16, j17, j18⟩ hs
      try dsimp only at hs ⊢
      repeat walk_at "hz"
      exact q.sub (by walk_at "sb")

def sp_law (K : PySem.W.Frag) : Sp := fun vs H Q E => ∃ (a : Addr) (ns : List Int) (L : Lg), vs = [.ref a] ∧ Led H (L) ∧ (Scr K L a ns) ∧ (ns.length ≤ 63) ∧ Tr (L) (fun H => Q (.bl true) H)
theorem use_law {L : Lg} {Q : VK} {E : XK} {a : Addr} {ns : List Int} (hS : Scr K L a ns) (hl : ns.length ≤ 63) (q : Tr (L) (fun H => Q (.bl true) H)) : Tr L fun H => sp_law K [.ref a] H Q E :=
  fun H l => ⟨a, ns, L, rfl, l, hS, hl, q⟩

theorem ok_law (D : Df K mg "law" s_law) (B : Blt mg) (k__law_bag : Ok P w K mg base CX0 1 "_law_bag" ["cell", "turn"] sp_law_bag) (k__law_cells : Ok P w K mg base CX0 1 "_law_cells" ["script"] (sp_law_cells K)) (k__law_right : Ok P w K mg base CX0 7 "_law_right" ["script", "bag"] (sp_law_right K)) : Ok P w K mg base CX0 8 "law" ["script"] (sp_law K) := by
  obtain ⟨f, fd, hm, F⟩ := D
  refine ⟨f, fd, hm, F.kp, F.binds (fun _ _ _ _ _ _ us hl => match us, hl with | [_], _ => rfl), FunOkG F sc_law (fun vs H Q E h => ?_) (fun cdv A outer s H vs Q E hr h => ?_), F.lk⟩
  · obtain ⟨_, _, _, rfl, _⟩ := h; rfl
  obtain ⟨a, ns, L, rfl, l, hS, hl, q⟩ := h
  refine ⟨_, PSs.nox (pss_cons (ps_for PassesOwn.never rfl (pi_enum (by rfl) B.enumerate_ (pa_cons (pe_callG k__law_cells (hr.mono (by omega)) pas0 (pa_cons (pv 0) pa_nil)) pa_nil)) (pg_tup rfl (pgs_cons (pg_name (i := 1) sc_law.nd rfl (.inl rfl)) (pgs_cons (pg_name (i := 2) sc_law.nd rfl (.inl rfl)) pgs_nil)))
        (pss_one (ps_if (pt_not (pt_val (pe_callG k__law_right (hr.mono (by omega)) pas0 (pa_cons (pv 0) (pa_cons (pe_callG k__law_bag (hr.mono (by omega)) pas0 (pa_cons (pv 2) (pa_cons (pv 1) pa_nil))) pa_nil))))) (pss_one (ps_ret pe_bl))
        pss_nil)))
      (pss_one (ps_ret pe_bl))), ?_⟩
  rw [show L2.start ["script", "k", "cell"] [.ref a] = [some (.ref a), none, none] from rfl]
  refine Tr.of ?_ l
  repeat walk_at "hz"
  refine use_law_cells hS hl fun p cs hc => ?_
  repeat walk_at "hz"
  refine t_forK (wk_enum (xs := cs.map V.int)) (fun t ((j1, j2) : Option V × Option V) => [some (.ref a), j1, j2]) (fun t ((j1, j2) : Option V × Option V) => (p, .lst (cs.map V.int)) :: L) (fun t ((j1, j2) : Option V × Option V) => True) ⟨(_, _), trivial, rfl, (by walk_at "sb")⟩ (fun _ _ _ => ⟨_, (by walk_at "pk")⟩) ?_ ?_
  · rintro t ⟨j1, j2⟩ v L' ht - ⟨T, x, rfl, hx, rfl⟩
    try dsimp only at  ⊢
    simp only [List.nil_append, List.cons_append]
    obtain ⟨cell, hc1, rfl⟩ := map_get hx
    rw [List.length_map] at ht
    repeat walk_at "hz"
    refine use_law_bag (by omega) (by omega) fun p2 o hs => ?_
    repeat walk_at "hz"
    refine use_law_right (by walk_at "pk") hS.cons.cons hs ?_
    repeat walk_at "hz"
    refine t_pst (_, _) trivial rfl (by walk_at "sb")
  · rintro ⟨j1, j2⟩ -
    try dsimp only at  ⊢
    repeat walk_at "hz"
    exact q.sub (by walk_at "sb")
theorem law_ok (B : Blt mg) (g_MAX_LINES : GV mg "MAX_LINES" (.int 200)) (g_MOST_ROWS : GV mg "MOST_ROWS" (.int 400)) (d__law_bag : Df K mg "_law_bag" s_law_bag) (d__law_cells : Df K mg "_law_cells" s_law_cells) (d__law_draw : Df K mg "_law_draw" s_law_draw) (d__law_rising : Df K mg "_law_rising" s_law_rising) (d__law_sized : Df K mg "_law_sized" s_law_sized) (d__law_places : Df K mg "_law_places" s_law_places) (d__law_no_outline : Df K mg "_law_no_outline" s_law_no_outline) (d__law_no_folds : Df K mg "_law_no_folds" s_law_no_folds) (d_is_integer : Df K mg "is_integer" s_is_integer) (d_is_outline : Df K mg "is_outline" s_is_outline) (d_check_outline : Df K mg "check_outline" s_check_outline) (d_check_folds : Df K mg "check_folds" s_check_folds) (d_last_of_section : Df K mg "last_of_section" s_last_of_section) (d_left_by : Df K mg "left_by" s_left_by) (d_lines_left : Df K mg "lines_left" s_lines_left) (d_folded_outline : Df K mg "folded_outline" s_folded_outline) (d_check_line : Df K mg "check_line" s_check_line) (d_check_height : Df K mg "check_height" s_check_height) (d_sections_between : Df K mg "sections_between" s_sections_between) (d_folds_to_show : Df K mg "folds_to_show" s_folds_to_show) (d_fewest_folds : Df K mg "fewest_folds" s_fewest_folds) (d__law_kind : Df K mg "_law_kind" s_law_kind) (d__law_error : Df K mg "_law_error" s_law_error) (d__law_right : Df K mg "_law_right" s_law_right) (d_law : Df K mg "law" s_law) (xc : ∃ C_EmptyHistoryError C_EmptyOutlineError C_EndError C_HiddenLineError C_InvalidDepthError C_InvalidDocumentError C_InvalidFoldsError C_InvalidHeightError C_InvalidLineError C_InvalidNumberError C_InvalidObservationsError C_InvalidOutlineError C_InvalidReadingError C_InvalidScrollError C_InvalidTextError C_InvalidTitleError C_StickyHeadsError C_TooDeepError C_TooManyLinesError : Addr, (GV mg "EmptyHistoryError" (.ref C_EmptyHistoryError)) ∧ (GV mg "EndError" (.ref C_EndError)) ∧ (GV mg "HiddenLineError" (.ref C_HiddenLineError)) ∧ (GV mg "InvalidDepthError" (.ref C_InvalidDepthError)) ∧ (GV mg "InvalidDocumentError" (.ref C_InvalidDocumentError)) ∧ (GV mg "InvalidNumberError" (.ref C_InvalidNumberError)) ∧ (GV mg "InvalidObservationsError" (.ref C_InvalidObservationsError)) ∧ (GV mg "InvalidReadingError" (.ref C_InvalidReadingError)) ∧ (GV mg "InvalidScrollError" (.ref C_InvalidScrollError)) ∧ (GV mg "InvalidTextError" (.ref C_InvalidTextError)) ∧ (GV mg "InvalidTitleError" (.ref C_InvalidTitleError)) ∧ (GV mg "TooDeepError" (.ref C_TooDeepError)) ∧ (GV mg "TooManyLinesError" (.ref C_TooManyLinesError)) ∧ (GV mg "EmptyOutlineError" (.ref C_EmptyOutlineError)) ∧ (GV mg "InvalidOutlineError" (.ref C_InvalidOutlineError)) ∧ (GV mg "InvalidHeightError" (.ref C_InvalidHeightError)) ∧ (mg "ValueError" = none) ∧ (GV mg "InvalidLineError" (.ref C_InvalidLineError)) ∧ (GV mg "InvalidFoldsError" (.ref C_InvalidFoldsError)) ∧ (Sbj K C_InvalidOutlineError) ∧ (PySem.W.kitOne K (.ref C_InvalidOutlineError) (.ref C_EmptyHistoryError) = some false) ∧ (PySem.W.kitOne K (.ref C_InvalidOutlineError) (.ref C_EndError) = some false) ∧ (PySem.W.kitOne K (.ref C_InvalidOutlineError) (.ref C_HiddenLineError) = some false) ∧ (PySem.W.kitOne K (.ref C_InvalidOutlineError) (.ref C_InvalidDepthError) = some false) ∧ (PySem.W.kitOne K (.ref C_InvalidOutlineError) (.ref C_InvalidDocumentError) = some false) ∧ (PySem.W.kitOne K (.ref C_InvalidOutlineError) (.ref C_InvalidNumberError) = some false) ∧ (PySem.W.kitOne K (.ref C_InvalidOutlineError) (.ref C_InvalidObservationsError) = some false) ∧ (PySem.W.kitOne K (.ref C_InvalidOutlineError) (.ref C_InvalidReadingError) = some false) ∧ (PySem.W.kitOne K (.ref C_InvalidOutlineError) (.ref C_InvalidScrollError) = some false) ∧ (PySem.W.kitOne K (.ref C_InvalidOutlineError) (.ref C_InvalidTextError) = some false) ∧ (PySem.W.kitOne K (.ref C_InvalidOutlineError) (.ref C_InvalidTitleError) = some false) ∧ (PySem.W.kitOne K (.ref C_InvalidOutlineError) (.ref C_TooDeepError) = some false) ∧ (PySem.W.kitOne K (.ref C_InvalidOutlineError) (.ref C_TooManyLinesError) = some false) ∧ (PySem.W.kitOne K (.ref C_InvalidOutlineError) (.ref C_EmptyOutlineError) = some false) ∧ (PySem.W.kitOne K (.ref C_InvalidOutlineError) (.ref C_InvalidOutlineError) = some true) ∧ (PySem.W.kitOne K (.ref C_InvalidOutlineError) (.ref C_InvalidHeightError) = some false) ∧ (PySem.W.kitOne K (.ref C_InvalidOutlineError) (.type "ValueError") = some true) ∧ (PySem.W.kitOne K (.ref C_InvalidOutlineError) (.ref C_InvalidLineError) = some false) ∧ (PySem.W.kitOne K (.ref C_InvalidOutlineError) (.ref C_InvalidFoldsError) = some false) ∧ (Sbj K C_InvalidHeightError) ∧ (PySem.W.kitOne K (.ref C_InvalidHeightError) (.ref C_EmptyHistoryError) = some false) ∧ (PySem.W.kitOne K (.ref C_InvalidHeightError) (.ref C_EndError) = some false) ∧ (PySem.W.kitOne K (.ref C_InvalidHeightError) (.ref C_HiddenLineError) = some false) ∧ (PySem.W.kitOne K (.ref C_InvalidHeightError) (.ref C_InvalidDepthError) = some false) ∧ (PySem.W.kitOne K (.ref C_InvalidHeightError) (.ref C_InvalidDocumentError) = some false) ∧ (PySem.W.kitOne K (.ref C_InvalidHeightError) (.ref C_InvalidNumberError) = some false) ∧ (PySem.W.kitOne K (.ref C_InvalidHeightError) (.ref C_InvalidObservationsError) = some false) ∧ (PySem.W.kitOne K (.ref C_InvalidHeightError) (.ref C_InvalidReadingError) = some false) ∧ (PySem.W.kitOne K (.ref C_InvalidHeightError) (.ref C_InvalidScrollError) = some false) ∧ (PySem.W.kitOne K (.ref C_InvalidHeightError) (.ref C_InvalidTextError) = some false) ∧ (PySem.W.kitOne K (.ref C_InvalidHeightError) (.ref C_InvalidTitleError) = some false) ∧ (PySem.W.kitOne K (.ref C_InvalidHeightError) (.ref C_TooDeepError) = some false) ∧ (PySem.W.kitOne K (.ref C_InvalidHeightError) (.ref C_TooManyLinesError) = some false) ∧ (PySem.W.kitOne K (.ref C_InvalidHeightError) (.ref C_EmptyOutlineError) = some false) ∧ (PySem.W.kitOne K (.ref C_InvalidHeightError) (.ref C_InvalidOutlineError) = some false) ∧ (PySem.W.kitOne K (.ref C_InvalidHeightError) (.ref C_InvalidHeightError) = some true) ∧ (PySem.W.kitOne K (.ref C_InvalidHeightError) (.type "ValueError") = some true) ∧ (PySem.W.kitOne K (.ref C_InvalidHeightError) (.ref C_InvalidLineError) = some false) ∧ (PySem.W.kitOne K (.ref C_InvalidHeightError) (.ref C_InvalidFoldsError) = some false) ∧ (Sbj K C_InvalidLineError) ∧ (PySem.W.kitOne K (.ref C_InvalidLineError) (.ref C_EmptyHistoryError) = some false) ∧ (PySem.W.kitOne K (.ref C_InvalidLineError) (.ref C_EndError) = some false) ∧ (PySem.W.kitOne K (.ref C_InvalidLineError) (.ref C_HiddenLineError) = some false) ∧ (PySem.W.kitOne K (.ref C_InvalidLineError) (.ref C_InvalidDepthError) = some false) ∧ (PySem.W.kitOne K (.ref C_InvalidLineError) (.ref C_InvalidDocumentError) = some false) ∧ (PySem.W.kitOne K (.ref C_InvalidLineError) (.ref C_InvalidNumberError) = some false) ∧ (PySem.W.kitOne K (.ref C_InvalidLineError) (.ref C_InvalidObservationsError) = some false) ∧ (PySem.W.kitOne K (.ref C_InvalidLineError) (.ref C_InvalidReadingError) = some false) ∧ (PySem.W.kitOne K (.ref C_InvalidLineError) (.ref C_InvalidScrollError) = some false) ∧ (PySem.W.kitOne K (.ref C_InvalidLineError) (.ref C_InvalidTextError) = some false) ∧ (PySem.W.kitOne K (.ref C_InvalidLineError) (.ref C_InvalidTitleError) = some false) ∧ (PySem.W.kitOne K (.ref C_InvalidLineError) (.ref C_TooDeepError) = some false) ∧ (PySem.W.kitOne K (.ref C_InvalidLineError) (.ref C_TooManyLinesError) = some false) ∧ (PySem.W.kitOne K (.ref C_InvalidLineError) (.ref C_EmptyOutlineError) = some false) ∧ (PySem.W.kitOne K (.ref C_InvalidLineError) (.ref C_InvalidOutlineError) = some false) ∧ (PySem.W.kitOne K (.ref C_InvalidLineError) (.ref C_InvalidHeightError) = some false) ∧ (PySem.W.kitOne K (.ref C_InvalidLineError) (.type "ValueError") = some true) ∧ (PySem.W.kitOne K (.ref C_InvalidLineError) (.ref C_InvalidLineError) = some true) ∧ (PySem.W.kitOne K (.ref C_InvalidLineError) (.ref C_InvalidFoldsError) = some false) ∧ (Sbj K C_InvalidFoldsError) ∧ (PySem.W.kitOne K (.ref C_InvalidFoldsError) (.ref C_EmptyHistoryError) = some false) ∧ (PySem.W.kitOne K (.ref C_InvalidFoldsError) (.ref C_EndError) = some false) ∧ (PySem.W.kitOne K (.ref C_InvalidFoldsError) (.ref C_HiddenLineError) = some false) ∧ (PySem.W.kitOne K (.ref C_InvalidFoldsError) (.ref C_InvalidDepthError) = some false) ∧ (PySem.W.kitOne K (.ref C_InvalidFoldsError) (.ref C_InvalidDocumentError) = some false) ∧ (PySem.W.kitOne K (.ref C_InvalidFoldsError) (.ref C_InvalidNumberError) = some false) ∧ (PySem.W.kitOne K (.ref C_InvalidFoldsError) (.ref C_InvalidObservationsError) = some false) ∧ (PySem.W.kitOne K (.ref C_InvalidFoldsError) (.ref C_InvalidReadingError) = some false) ∧ (PySem.W.kitOne K (.ref C_InvalidFoldsError) (.ref C_InvalidScrollError) = some false) ∧ (PySem.W.kitOne K (.ref C_InvalidFoldsError) (.ref C_InvalidTextError) = some false) ∧ (PySem.W.kitOne K (.ref C_InvalidFoldsError) (.ref C_InvalidTitleError) = some false) ∧ (PySem.W.kitOne K (.ref C_InvalidFoldsError) (.ref C_TooDeepError) = some false) ∧ (PySem.W.kitOne K (.ref C_InvalidFoldsError) (.ref C_TooManyLinesError) = some false) ∧ (PySem.W.kitOne K (.ref C_InvalidFoldsError) (.ref C_EmptyOutlineError) = some false) ∧ (PySem.W.kitOne K (.ref C_InvalidFoldsError) (.ref C_InvalidOutlineError) = some false) ∧ (PySem.W.kitOne K (.ref C_InvalidFoldsError) (.ref C_InvalidHeightError) = some false) ∧ (PySem.W.kitOne K (.ref C_InvalidFoldsError) (.type "ValueError") = some true) ∧ (PySem.W.kitOne K (.ref C_InvalidFoldsError) (.ref C_InvalidLineError) = some false) ∧ (PySem.W.kitOne K (.ref C_InvalidFoldsError) (.ref C_InvalidFoldsError) = some true) ∧ (GV mg "StickyHeadsError" (.ref C_StickyHeadsError)) ∧ (PySem.W.exmOne K (.ref C_InvalidOutlineError) (.ref C_StickyHeadsError) = some true) ∧ (PySem.W.exmOne K (.ref C_InvalidHeightError) (.ref C_StickyHeadsError) = some true) ∧ (PySem.W.exmOne K (.ref C_InvalidLineError) (.ref C_StickyHeadsError) = some true) ∧ (PySem.W.exmOne K (.ref C_InvalidFoldsError) (.ref C_StickyHeadsError) = some true) ∧ (ExcC K mg "InvalidOutlineError" C_InvalidOutlineError) ∧ (ExcC K mg "InvalidFoldsError" C_InvalidFoldsError) ∧ (ExcC K mg "InvalidLineError" C_InvalidLineError) ∧ (ExcC K mg "InvalidHeightError" C_InvalidHeightError) ∧ True) :
    Ok P w K mg base CX0 8 "law" ["script"] (sp_law K) := by
  obtain ⟨C_EmptyHistoryError, C_EmptyOutlineError, C_EndError, C_HiddenLineError, C_InvalidDepthError, C_InvalidDocumentError, C_InvalidFoldsError, C_InvalidHeightError, C_InvalidLineError, C_InvalidNumberError, C_InvalidObservationsError, C_InvalidOutlineError, C_InvalidReadingError, C_InvalidScrollError, C_InvalidTextError, C_InvalidTitleError, C_StickyHeadsError, C_TooDeepError, C_TooManyLinesError, g_EmptyHistoryError, g_EndError, g_HiddenLineError, g_InvalidDepthError, g_InvalidDocumentError, g_InvalidNumberError, g_InvalidObservationsError, g_InvalidReadingError, g_InvalidScrollError, g_InvalidTextError, g_InvalidTitleError, g_TooDeepError, g_TooManyLinesError, g_EmptyOutlineError, g_InvalidOutlineError, g_InvalidHeightError, n_ValueError, g_InvalidLineError, g_InvalidFoldsError, T_InvalidOutlineError, i_InvalidOutlineError_EmptyHistoryError, i_InvalidOutlineError_EndError, i_InvalidOutlineError_HiddenLineError, i_InvalidOutlineError_InvalidDepthError, i_InvalidOutlineError_InvalidDocumentError, i_InvalidOutlineError_InvalidNumberError, i_InvalidOutlineError_InvalidObservationsError, i_InvalidOutlineError_InvalidReadingError, i_InvalidOutlineError_InvalidScrollError, i_InvalidOutlineError_InvalidTextError, i_InvalidOutlineError_InvalidTitleError, i_InvalidOutlineError_TooDeepError, i_InvalidOutlineError_TooManyLinesError, i_InvalidOutlineError_EmptyOutlineError, i_InvalidOutlineError_InvalidOutlineError, i_InvalidOutlineError_InvalidHeightError, iv_InvalidOutlineError, i_InvalidOutlineError_InvalidLineError, i_InvalidOutlineError_InvalidFoldsError, T_InvalidHeightError, i_InvalidHeightError_EmptyHistoryError, i_InvalidHeightError_EndError, i_InvalidHeightError_HiddenLineError, i_InvalidHeightError_InvalidDepthError, i_InvalidHeightError_InvalidDocumentError, i_InvalidHeightError_InvalidNumberError, i_InvalidHeightError_InvalidObservationsError, i_InvalidHeightError_InvalidReadingError, i_InvalidHeightError_InvalidScrollError, i_InvalidHeightError_InvalidTextError, i_InvalidHeightError_InvalidTitleError, i_InvalidHeightError_TooDeepError, i_InvalidHeightError_TooManyLinesError, i_InvalidHeightError_EmptyOutlineError, i_InvalidHeightError_InvalidOutlineError, i_InvalidHeightError_InvalidHeightError, iv_InvalidHeightError, i_InvalidHeightError_InvalidLineError, i_InvalidHeightError_InvalidFoldsError, T_InvalidLineError, i_InvalidLineError_EmptyHistoryError, i_InvalidLineError_EndError, i_InvalidLineError_HiddenLineError, i_InvalidLineError_InvalidDepthError, i_InvalidLineError_InvalidDocumentError, i_InvalidLineError_InvalidNumberError, i_InvalidLineError_InvalidObservationsError, i_InvalidLineError_InvalidReadingError, i_InvalidLineError_InvalidScrollError, i_InvalidLineError_InvalidTextError, i_InvalidLineError_InvalidTitleError, i_InvalidLineError_TooDeepError, i_InvalidLineError_TooManyLinesError, i_InvalidLineError_EmptyOutlineError, i_InvalidLineError_InvalidOutlineError, i_InvalidLineError_InvalidHeightError, iv_InvalidLineError, i_InvalidLineError_InvalidLineError, i_InvalidLineError_InvalidFoldsError, T_InvalidFoldsError, i_InvalidFoldsError_EmptyHistoryError, i_InvalidFoldsError_EndError, i_InvalidFoldsError_HiddenLineError, i_InvalidFoldsError_InvalidDepthError, i_InvalidFoldsError_InvalidDocumentError, i_InvalidFoldsError_InvalidNumberError, i_InvalidFoldsError_InvalidObservationsError, i_InvalidFoldsError_InvalidReadingError, i_InvalidFoldsError_InvalidScrollError, i_InvalidFoldsError_InvalidTextError, i_InvalidFoldsError_InvalidTitleError, i_InvalidFoldsError_TooDeepError, i_InvalidFoldsError_TooManyLinesError, i_InvalidFoldsError_EmptyOutlineError, i_InvalidFoldsError_InvalidOutlineError, i_InvalidFoldsError_InvalidHeightError, iv_InvalidFoldsError, i_InvalidFoldsError_InvalidLineError, i_InvalidFoldsError_InvalidFoldsError, g_StickyHeadsError, m_InvalidOutlineError_StickyHeadsError, m_InvalidHeightError_StickyHeadsError, m_InvalidLineError_StickyHeadsError, m_InvalidFoldsError_StickyHeadsError, X_InvalidOutlineError, X_InvalidFoldsError, X_InvalidLineError, X_InvalidHeightError, -⟩ := xc
  have k__law_bag := ok_law_bag (P := P) (w := w) (base := base) d__law_bag B
  have k__law_cells := ok_law_cells (P := P) (w := w) (base := base) d__law_cells B
  have k__law_draw := ok_law_draw (P := P) (w := w) (base := base) d__law_draw B
  have k__law_rising := ok_law_rising (P := P) (w := w) (base := base) d__law_rising B k__law_draw
  have k__law_sized := ok_law_sized (P := P) (w := w) (base := base) d__law_sized B k__law_draw k__law_rising
  have k__law_places := ok_law_places (P := P) (w := w) (base := base) d__law_places B k__law_draw
  have k__law_no_outline := ok_law_no_outline (P := P) (w := w) (base := base) d__law_no_outline B k__law_draw
  have k__law_no_folds := ok_law_no_folds (P := P) (w := w) (base := base) d__law_no_folds B k__law_draw
  have k_is_integer := ok_is_integer (P := P) (w := w) (base := base) d_is_integer B
  have k_is_outline := ok_is_outline (P := P) (w := w) (base := base) d_is_outline B g_MAX_LINES k_is_integer
  have k_check_outline := ok_check_outline (P := P) (w := w) (base := base) d_check_outline B X_InvalidOutlineError k_is_outline
  have k_check_folds := ok_check_folds (P := P) (w := w) (base := base) d_check_folds B X_InvalidFoldsError k_is_integer
  have k_last_of_section := ok_last_of_section (P := P) (w := w) (base := base) d_last_of_section B
  have k_left_by := ok_left_by (P := P) (w := w) (base := base) d_left_by B k_last_of_section
  have k_lines_left := ok_lines_left (P := P) (w := w) (base := base) d_lines_left B k_check_outline k_check_folds k_left_by
  have k_folded_outline := ok_folded_outline (P := P) (w := w) (base := base) d_folded_outline B k_lines_left
  have k_check_line := ok_check_line (P := P) (w := w) (base := base) d_check_line B X_InvalidLineError k_is_integer
  have k_check_height := ok_check_height (P := P) (w := w) (base := base) d_check_height B X_InvalidHeightError g_MOST_ROWS k_is_integer
  have k_sections_between := ok_sections_between (P := P) (w := w) (base := base) d_sections_between B k_last_of_section
  have k_folds_to_show := ok_folds_to_show (P := P) (w := w) (base := base) d_folds_to_show B k_check_outline k_check_line k_check_height k_sections_between
  have k_fewest_folds := ok_fewest_folds (P := P) (w := w) (base := base) d_fewest_folds B k_folds_to_show
  have k__law_kind := ok_law_kind (P := P) (w := w) (base := base) d__law_kind B g_EmptyHistoryError g_EndError g_HiddenLineError g_InvalidDepthError g_InvalidDocumentError g_InvalidNumberError g_InvalidObservationsError g_InvalidReadingError g_InvalidScrollError g_InvalidTextError g_InvalidTitleError g_TooDeepError g_TooManyLinesError g_EmptyOutlineError g_InvalidOutlineError g_InvalidHeightError n_ValueError g_InvalidLineError g_InvalidFoldsError T_InvalidOutlineError i_InvalidOutlineError_EmptyHistoryError i_InvalidOutlineError_EndError i_InvalidOutlineError_HiddenLineError i_InvalidOutlineError_InvalidDepthError i_InvalidOutlineError_InvalidDocumentError i_InvalidOutlineError_InvalidNumberError i_InvalidOutlineError_InvalidObservationsError i_InvalidOutlineError_InvalidReadingError i_InvalidOutlineError_InvalidScrollError i_InvalidOutlineError_InvalidTextError i_InvalidOutlineError_InvalidTitleError i_InvalidOutlineError_TooDeepError i_InvalidOutlineError_TooManyLinesError i_InvalidOutlineError_EmptyOutlineError i_InvalidOutlineError_InvalidOutlineError i_InvalidOutlineError_InvalidHeightError iv_InvalidOutlineError i_InvalidOutlineError_InvalidLineError i_InvalidOutlineError_InvalidFoldsError T_InvalidHeightError i_InvalidHeightError_EmptyHistoryError i_InvalidHeightError_EndError i_InvalidHeightError_HiddenLineError i_InvalidHeightError_InvalidDepthError i_InvalidHeightError_InvalidDocumentError i_InvalidHeightError_InvalidNumberError i_InvalidHeightError_InvalidObservationsError i_InvalidHeightError_InvalidReadingError i_InvalidHeightError_InvalidScrollError i_InvalidHeightError_InvalidTextError i_InvalidHeightError_InvalidTitleError i_InvalidHeightError_TooDeepError i_InvalidHeightError_TooManyLinesError i_InvalidHeightError_EmptyOutlineError i_InvalidHeightError_InvalidOutlineError i_InvalidHeightError_InvalidHeightError iv_InvalidHeightError i_InvalidHeightError_InvalidLineError i_InvalidHeightError_InvalidFoldsError T_InvalidLineError i_InvalidLineError_EmptyHistoryError i_InvalidLineError_EndError i_InvalidLineError_HiddenLineError i_InvalidLineError_InvalidDepthError i_InvalidLineError_InvalidDocumentError i_InvalidLineError_InvalidNumberError i_InvalidLineError_InvalidObservationsError i_InvalidLineError_InvalidReadingError i_InvalidLineError_InvalidScrollError i_InvalidLineError_InvalidTextError i_InvalidLineError_InvalidTitleError i_InvalidLineError_TooDeepError i_InvalidLineError_TooManyLinesError i_InvalidLineError_EmptyOutlineError i_InvalidLineError_InvalidOutlineError i_InvalidLineError_InvalidHeightError iv_InvalidLineError i_InvalidLineError_InvalidLineError i_InvalidLineError_InvalidFoldsError T_InvalidFoldsError i_InvalidFoldsError_EmptyHistoryError i_InvalidFoldsError_EndError i_InvalidFoldsError_HiddenLineError i_InvalidFoldsError_InvalidDepthError i_InvalidFoldsError_InvalidDocumentError i_InvalidFoldsError_InvalidNumberError i_InvalidFoldsError_InvalidObservationsError i_InvalidFoldsError_InvalidReadingError i_InvalidFoldsError_InvalidScrollError i_InvalidFoldsError_InvalidTextError i_InvalidFoldsError_InvalidTitleError i_InvalidFoldsError_TooDeepError i_InvalidFoldsError_TooManyLinesError i_InvalidFoldsError_EmptyOutlineError i_InvalidFoldsError_InvalidOutlineError i_InvalidFoldsError_InvalidHeightError iv_InvalidFoldsError i_InvalidFoldsError_InvalidLineError i_InvalidFoldsError_InvalidFoldsError
  have k__law_error := ok_law_error (P := P) (w := w) (base := base) d__law_error B k_lines_left k_folded_outline k_folds_to_show k_fewest_folds k__law_kind g_StickyHeadsError m_InvalidOutlineError_StickyHeadsError m_InvalidHeightError_StickyHeadsError m_InvalidLineError_StickyHeadsError m_InvalidFoldsError_StickyHeadsError
  have k__law_right := ok_law_right (P := P) (w := w) (base := base) d__law_right B k__law_draw k__law_sized k__law_places k__law_no_outline k__law_no_folds k__law_error
  have k_law := ok_law (P := P) (w := w) (base := base) d_law B k__law_bag k__law_cells k__law_right
  exact k_law


end
end Hz
open PySem PySem.W PyProof.Rows
set_option maxRecDepth 100000 in
set_option maxHeartbeats 0 in
theorem PySem.Challenge.cw_stickyheads_k43_errors_of_folds_holds : PySem.Challenge.rw_stickyheads_k43_errors_of_folds.Holds := by
  w_on; o_law; k_head; (case hw => w_witness2)
  k_fill
  refine Hz.walkG (l := PySem.Challenge.rw_stickyheads_k43_errors_of_folds) (n := 63) (k := 8) (x := "script") (CX := fun _ => L2.CX0) (sp := fun w => Hz.sp_law _) rfl (by decide) rfl ⟨⟨rfl, by decide, by decide⟩, rfl⟩ (fun w h Y => PySem.W.kIn_of Y) ?F
    (fun w H a ns hl hb _ hS => by
      obtain ⟨L, l, hS⟩ := Hz.scr_start hS
      exact ⟨a, ns, L, rfl, l, hS, hl, by first | exact fun _ => rfl | exact fun _ _ => rfl⟩) (fun _ _ _ _ _ h => h)
  case F =>
    intro w mg fa h KX G hmg base _ _
    refine Hz.law_ok ⟨?_, ?_, ?_, ?_, ?_, ?_, ?_, ?_, ?_, ?_, ?_, ?_, ?_, ?_, ?_, ?_, ?_, ?_, ?_, ?_⟩ ?_ ?_ ?_ ?_ ?_ ?_ ?_ ?_ ?_ ?_ ?_ ?_ ?_ ?_ ?_ ?_ ?_ ?_ ?_ ?_ ?_ ?_ ?_ ?_ ?_ ?_ ?_ ?_
    iterate 20 (refine Hz.no_mk KX G ?_; k_is)
    · refine' Hz.gv_mk KX G ?a ?r; (case a => k_is); (case r => exact ⟨_, rfl⟩)
    · refine' Hz.gv_mk KX G ?a ?r; (case a => k_is); (case r => exact ⟨_, rfl⟩)
    iterate 25 (refine' Hz.df_mk KX G ?a ?l ?c ?k; (case a => k_is); (case l => k_is); (case c => k_is); (case k => k_is))
    refine' ⟨_, _, _, _, _, _, _, _, _, _, _, _, _, _, _, _, _, _, _, Hz.cls_mk KX G ?g_EmptyHistoryError, Hz.cls_mk KX G ?g_EndError, Hz.cls_mk KX G ?g_HiddenLineError, Hz.cls_mk KX G ?g_InvalidDepthError, Hz.cls_mk KX G ?g_InvalidDocumentError, Hz.cls_mk KX G ?g_InvalidNumberError, Hz.cls_mk KX G ?g_InvalidObservationsError, Hz.cls_mk KX G ?g_InvalidReadingError, Hz.cls_mk KX G ?g_InvalidScrollError, Hz.cls_mk KX G ?g_InvalidTextError, Hz.cls_mk KX G ?g_InvalidTitleError, Hz.cls_mk KX G ?g_TooDeepError, Hz.cls_mk KX G ?g_TooManyLinesError, Hz.cls_mk KX G ?g_EmptyOutlineError, Hz.cls_mk KX G ?g_InvalidOutlineError, Hz.cls_mk KX G ?g_InvalidHeightError, Hz.no_mk KX G ?n_ValueError, Hz.cls_mk KX G ?g_InvalidLineError, Hz.cls_mk KX G ?g_InvalidFoldsError, ⟨?aT_InvalidOutlineError, ?bT_InvalidOutlineError, ?cT_InvalidOutlineError, ?dT_InvalidOutlineError, ?eT_InvalidOutlineError, ?fT_InvalidOutlineError, ?gT_InvalidOutlineError, ?hT_InvalidOutlineError, ?iT_InvalidOutlineError⟩, ?i_InvalidOutlineError_EmptyHistoryError, ?i_InvalidOutlineError_EndError, ?i_InvalidOutlineError_HiddenLineError, ?i_InvalidOutlineError_InvalidDepthError, ?i_InvalidOutlineError_InvalidDocumentError, ?i_InvalidOutlineError_InvalidNumberError, ?i_InvalidOutlineError_InvalidObservationsError, ?i_InvalidOutlineError_InvalidReadingError, ?i_InvalidOutlineError_InvalidScrollError, ?i_InvalidOutlineError_InvalidTextError, ?i_InvalidOutlineError_InvalidTitleError, ?i_InvalidOutlineError_TooDeepError, ?i_InvalidOutlineError_TooManyLinesError, ?i_InvalidOutlineError_EmptyOutlineError, ?i_InvalidOutlineError_InvalidOutlineError, ?i_InvalidOutlineError_InvalidHeightError, ?iv_InvalidOutlineError, ?i_InvalidOutlineError_InvalidLineError, ?i_InvalidOutlineError_InvalidFoldsError, ⟨?aT_InvalidHeightError, ?bT_InvalidHeightError, ?cT_InvalidHeightError, ?dT_InvalidHeightError, ?eT_InvalidHeightError, ?fT_InvalidHeightError, ?gT_InvalidHeightError, ?hT_InvalidHeightError, ?iT_InvalidHeightError⟩, ?i_InvalidHeightError_EmptyHistoryError, ?i_InvalidHeightError_EndError, ?i_InvalidHeightError_HiddenLineError, ?i_InvalidHeightError_InvalidDepthError, ?i_InvalidHeightError_InvalidDocumentError, ?i_InvalidHeightError_InvalidNumberError, ?i_InvalidHeightError_InvalidObservationsError, ?i_InvalidHeightError_InvalidReadingError, ?i_InvalidHeightError_InvalidScrollError, ?i_InvalidHeightError_InvalidTextError, ?i_InvalidHeightError_InvalidTitleError, ?i_InvalidHeightError_TooDeepError, ?i_InvalidHeightError_TooManyLinesError, ?i_InvalidHeightError_EmptyOutlineError, ?i_InvalidHeightError_InvalidOutlineError, ?i_InvalidHeightError_InvalidHeightError, ?iv_InvalidHeightError, ?i_InvalidHeightError_InvalidLineError, ?i_InvalidHeightError_InvalidFoldsError, ⟨?aT_InvalidLineError, ?bT_InvalidLineError, ?cT_InvalidLineError, ?dT_InvalidLineError, ?eT_InvalidLineError, ?fT_InvalidLineError, ?gT_InvalidLineError, ?hT_InvalidLineError, ?iT_InvalidLineError⟩, ?i_InvalidLineError_EmptyHistoryError, ?i_InvalidLineError_EndError, ?i_InvalidLineError_HiddenLineError, ?i_InvalidLineError_InvalidDepthError, ?i_InvalidLineError_InvalidDocumentError, ?i_InvalidLineError_InvalidNumberError, ?i_InvalidLineError_InvalidObservationsError, ?i_InvalidLineError_InvalidReadingError, ?i_InvalidLineError_InvalidScrollError, ?i_InvalidLineError_InvalidTextError, ?i_InvalidLineError_InvalidTitleError, ?i_InvalidLineError_TooDeepError, ?i_InvalidLineError_TooManyLinesError, ?i_InvalidLineError_EmptyOutlineError, ?i_InvalidLineError_InvalidOutlineError, ?i_InvalidLineError_InvalidHeightError, ?iv_InvalidLineError, ?i_InvalidLineError_InvalidLineError, ?i_InvalidLineError_InvalidFoldsError, ⟨?aT_InvalidFoldsError, ?bT_InvalidFoldsError, ?cT_InvalidFoldsError, ?dT_InvalidFoldsError, ?eT_InvalidFoldsError, ?fT_InvalidFoldsError, ?gT_InvalidFoldsError, ?hT_InvalidFoldsError, ?iT_InvalidFoldsError⟩, ?i_InvalidFoldsError_EmptyHistoryError, ?i_InvalidFoldsError_EndError, ?i_InvalidFoldsError_HiddenLineError, ?i_InvalidFoldsError_InvalidDepthError, ?i_InvalidFoldsError_InvalidDocumentError, ?i_InvalidFoldsError_InvalidNumberError, ?i_InvalidFoldsError_InvalidObservationsError, ?i_InvalidFoldsError_InvalidReadingError, ?i_InvalidFoldsError_InvalidScrollError, ?i_InvalidFoldsError_InvalidTextError, ?i_InvalidFoldsError_InvalidTitleError, ?i_InvalidFoldsError_TooDeepError, ?i_InvalidFoldsError_TooManyLinesError, ?i_InvalidFoldsError_EmptyOutlineError, ?i_InvalidFoldsError_InvalidOutlineError, ?i_InvalidFoldsError_InvalidHeightError, ?iv_InvalidFoldsError, ?i_InvalidFoldsError_InvalidLineError, ?i_InvalidFoldsError_InvalidFoldsError, Hz.cls_mk KX G ?g_StickyHeadsError, Hz.exm_own ?am_InvalidOutlineError_StickyHeadsError ?bm_InvalidOutlineError_StickyHeadsError ?cm_InvalidOutlineError_StickyHeadsError ?dm_InvalidOutlineError_StickyHeadsError, Hz.exm_own ?am_InvalidHeightError_StickyHeadsError ?bm_InvalidHeightError_StickyHeadsError ?cm_InvalidHeightError_StickyHeadsError ?dm_InvalidHeightError_StickyHeadsError, Hz.exm_own ?am_InvalidLineError_StickyHeadsError ?bm_InvalidLineError_StickyHeadsError ?cm_InvalidLineError_StickyHeadsError ?dm_InvalidLineError_StickyHeadsError, Hz.exm_own ?am_InvalidFoldsError_StickyHeadsError ?bm_InvalidFoldsError_StickyHeadsError ?cm_InvalidFoldsError_StickyHeadsError ?dm_InvalidFoldsError_StickyHeadsError, Hz.excC_mk KX G ?hInvalidOutlineError ?aInvalidOutlineError ?bInvalidOutlineError ?cInvalidOutlineError ?dInvalidOutlineError ?eInvalidOutlineError ?fInvalidOutlineError, Hz.excC_mk KX G ?hInvalidFoldsError ?aInvalidFoldsError ?bInvalidFoldsError ?cInvalidFoldsError ?dInvalidFoldsError ?eInvalidFoldsError ?fInvalidFoldsError, Hz.excC_mk KX G ?hInvalidLineError ?aInvalidLineError ?bInvalidLineError ?cInvalidLineError ?dInvalidLineError ?eInvalidLineError ?fInvalidLineError, Hz.excC_mk KX G ?hInvalidHeightError ?aInvalidHeightError ?bInvalidHeightError ?cInvalidHeightError ?dInvalidHeightError ?eInvalidHeightError ?fInvalidHeightError, trivial⟩
    (case g_EmptyHistoryError => k_is)
    (case g_EndError => k_is)
    (case g_HiddenLineError => k_is)
    (case g_InvalidDepthError => k_is)
    (case g_InvalidDocumentError => k_is)
    (case g_InvalidNumberError => k_is)
    (case g_InvalidObservationsError => k_is)
    (case g_InvalidReadingError => k_is)
    (case g_InvalidScrollError => k_is)
    (case g_InvalidTextError => k_is)
    (case g_InvalidTitleError => k_is)
    (case g_TooDeepError => k_is)
    (case g_TooManyLinesError => k_is)
    (case g_EmptyOutlineError => k_is)
    (case g_InvalidOutlineError => k_is)
    (case g_InvalidHeightError => k_is)
    (case g_InvalidLineError => k_is)
    (case g_InvalidFoldsError => k_is)
    (case g_StickyHeadsError => k_is)
    (case n_ValueError => k_is)
    (case aT_InvalidOutlineError => k_is); (case bT_InvalidOutlineError => k_is); (case cT_InvalidOutlineError => k_is); (case dT_InvalidOutlineError => k_is); (case eT_InvalidOutlineError => k_is); (case fT_InvalidOutlineError => k_is); (case gT_InvalidOutlineError => k_is); (case hT_InvalidOutlineError => k_is); (case iT_InvalidOutlineError => k_is)
    (case i_InvalidOutlineError_EmptyHistoryError => kit_is)
    (case i_InvalidOutlineError_EndError => kit_is)
    (case i_InvalidOutlineError_HiddenLineError => kit_is)
    (case i_InvalidOutlineError_InvalidDepthError => kit_is)
    (case i_InvalidOutlineError_InvalidDocumentError => kit_is)
    (case i_InvalidOutlineError_InvalidNumberError => kit_is)
    (case i_InvalidOutlineError_InvalidObservationsError => kit_is)
    (case i_InvalidOutlineError_InvalidReadingError => kit_is)
    (case i_InvalidOutlineError_InvalidScrollError => kit_is)
    (case i_InvalidOutlineError_InvalidTextError => kit_is)
    (case i_InvalidOutlineError_InvalidTitleError => kit_is)
    (case i_InvalidOutlineError_TooDeepError => kit_is)
    (case i_InvalidOutlineError_TooManyLinesError => kit_is)
    (case i_InvalidOutlineError_EmptyOutlineError => kit_is)
    (case i_InvalidOutlineError_InvalidOutlineError => kit_is)
    (case i_InvalidOutlineError_InvalidHeightError => kit_is)
    (case iv_InvalidOutlineError => kit_is)
    (case i_InvalidOutlineError_InvalidLineError => kit_is)
    (case i_InvalidOutlineError_InvalidFoldsError => kit_is)
    (case aT_InvalidHeightError => k_is); (case bT_InvalidHeightError => k_is); (case cT_InvalidHeightError => k_is); (case dT_InvalidHeightError => k_is); (case eT_InvalidHeightError => k_is); (case fT_InvalidHeightError => k_is); (case gT_InvalidHeightError => k_is); (case hT_InvalidHeightError => k_is); (case iT_InvalidHeightError => k_is)
    (case i_InvalidHeightError_EmptyHistoryError => kit_is)
    (case i_InvalidHeightError_EndError => kit_is)
    (case i_InvalidHeightError_HiddenLineError => kit_is)
    (case i_InvalidHeightError_InvalidDepthError => kit_is)
    (case i_InvalidHeightError_InvalidDocumentError => kit_is)
    (case i_InvalidHeightError_InvalidNumberError => kit_is)
    (case i_InvalidHeightError_InvalidObservationsError => kit_is)
    (case i_InvalidHeightError_InvalidReadingError => kit_is)
    (case i_InvalidHeightError_InvalidScrollError => kit_is)
    (case i_InvalidHeightError_InvalidTextError => kit_is)
    (case i_InvalidHeightError_InvalidTitleError => kit_is)
    (case i_InvalidHeightError_TooDeepError => kit_is)
    (case i_InvalidHeightError_TooManyLinesError => kit_is)
    (case i_InvalidHeightError_EmptyOutlineError => kit_is)
    (case i_InvalidHeightError_InvalidOutlineError => kit_is)
    (case i_InvalidHeightError_InvalidHeightError => kit_is)
    (case iv_InvalidHeightError => kit_is)
    (case i_InvalidHeightError_InvalidLineError => kit_is)
    (case i_InvalidHeightError_InvalidFoldsError => kit_is)
    (case aT_InvalidLineError => k_is); (case bT_InvalidLineError => k_is); (case cT_InvalidLineError => k_is); (case dT_InvalidLineError => k_is); (case eT_InvalidLineError => k_is); (case fT_InvalidLineError => k_is); (case gT_InvalidLineError => k_is); (case hT_InvalidLineError => k_is); (case iT_InvalidLineError => k_is)
    (case i_InvalidLineError_EmptyHistoryError => kit_is)
    (case i_InvalidLineError_EndError => kit_is)
    (case i_InvalidLineError_HiddenLineError => kit_is)
    (case i_InvalidLineError_InvalidDepthError => kit_is)
    (case i_InvalidLineError_InvalidDocumentError => kit_is)
    (case i_InvalidLineError_InvalidNumberError => kit_is)
    (case i_InvalidLineError_InvalidObservationsError => kit_is)
    (case i_InvalidLineError_InvalidReadingError => kit_is)
    (case i_InvalidLineError_InvalidScrollError => kit_is)
    (case i_InvalidLineError_InvalidTextError => kit_is)
    (case i_InvalidLineError_InvalidTitleError => kit_is)
    (case i_InvalidLineError_TooDeepError => kit_is)
    (case i_InvalidLineError_TooManyLinesError => kit_is)
    (case i_InvalidLineError_EmptyOutlineError => kit_is)
    (case i_InvalidLineError_InvalidOutlineError => kit_is)
    (case i_InvalidLineError_InvalidHeightError => kit_is)
    (case iv_InvalidLineError => kit_is)
    (case i_InvalidLineError_InvalidLineError => kit_is)
    (case i_InvalidLineError_InvalidFoldsError => kit_is)
    (case aT_InvalidFoldsError => k_is); (case bT_InvalidFoldsError => k_is); (case cT_InvalidFoldsError => k_is); (case dT_InvalidFoldsError => k_is); (case eT_InvalidFoldsError => k_is); (case fT_InvalidFoldsError => k_is); (case gT_InvalidFoldsError => k_is); (case hT_InvalidFoldsError => k_is); (case iT_InvalidFoldsError => k_is)
    (case i_InvalidFoldsError_EmptyHistoryError => kit_is)
    (case i_InvalidFoldsError_EndError => kit_is)
    (case i_InvalidFoldsError_HiddenLineError => kit_is)
    (case i_InvalidFoldsError_InvalidDepthError => kit_is)
    (case i_InvalidFoldsError_InvalidDocumentError => kit_is)
    (case i_InvalidFoldsError_InvalidNumberError => kit_is)
    (case i_InvalidFoldsError_InvalidObservationsError => kit_is)
    (case i_InvalidFoldsError_InvalidReadingError => kit_is)
    (case i_InvalidFoldsError_InvalidScrollError => kit_is)
    (case i_InvalidFoldsError_InvalidTextError => kit_is)
    (case i_InvalidFoldsError_InvalidTitleError => kit_is)
    (case i_InvalidFoldsError_TooDeepError => kit_is)
    (case i_InvalidFoldsError_TooManyLinesError => kit_is)
    (case i_InvalidFoldsError_EmptyOutlineError => kit_is)
    (case i_InvalidFoldsError_InvalidOutlineError => kit_is)
    (case i_InvalidFoldsError_InvalidHeightError => kit_is)
    (case iv_InvalidFoldsError => kit_is)
    (case i_InvalidFoldsError_InvalidLineError => kit_is)
    (case i_InvalidFoldsError_InvalidFoldsError => kit_is)
    (case am_InvalidOutlineError_StickyHeadsError => k_is); (case bm_InvalidOutlineError_StickyHeadsError => k_is); (case cm_InvalidOutlineError_StickyHeadsError => k_is); (case dm_InvalidOutlineError_StickyHeadsError => k_is)
    (case am_InvalidHeightError_StickyHeadsError => k_is); (case bm_InvalidHeightError_StickyHeadsError => k_is); (case cm_InvalidHeightError_StickyHeadsError => k_is); (case dm_InvalidHeightError_StickyHeadsError => k_is)
    (case am_InvalidLineError_StickyHeadsError => k_is); (case bm_InvalidLineError_StickyHeadsError => k_is); (case cm_InvalidLineError_StickyHeadsError => k_is); (case dm_InvalidLineError_StickyHeadsError => k_is)
    (case am_InvalidFoldsError_StickyHeadsError => k_is); (case bm_InvalidFoldsError_StickyHeadsError => k_is); (case cm_InvalidFoldsError_StickyHeadsError => k_is); (case dm_InvalidFoldsError_StickyHeadsError => k_is)
    (case hInvalidOutlineError => k_is); (case aInvalidOutlineError => k_is); (case bInvalidOutlineError => k_exc); (case cInvalidOutlineError => k_is); (case dInvalidOutlineError => k_is); (case eInvalidOutlineError => k_is); (case fInvalidOutlineError => first | rfl | k_is)
    (case hInvalidFoldsError => k_is); (case aInvalidFoldsError => k_is); (case bInvalidFoldsError => k_exc); (case cInvalidFoldsError => k_is); (case dInvalidFoldsError => k_is); (case eInvalidFoldsError => k_is); (case fInvalidFoldsError => first | rfl | k_is)
    (case hInvalidLineError => k_is); (case aInvalidLineError => k_is); (case bInvalidLineError => k_exc); (case cInvalidLineError => k_is); (case dInvalidLineError => k_is); (case eInvalidLineError => k_is); (case fInvalidLineError => first | rfl | k_is)
    (case hInvalidHeightError => k_is); (case aInvalidHeightError => k_is); (case bInvalidHeightError => k_exc); (case cInvalidHeightError => k_is); (case dInvalidHeightError => k_is); (case eInvalidHeightError => k_is); (case fInvalidHeightError => first | rfl | k_is)
