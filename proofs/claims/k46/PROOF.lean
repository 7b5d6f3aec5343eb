import PyProof.Rows.All
import Wide.All
import OpenK.AllK
import Wide.FinOn
import PyProof.EqAt
import PyProof.EqKinds
import PyProof.TupleCall
import PyProof.ReprRoads
import HandS.ForMost
import HandS.Exc
import HandS.TryOnly
import HandS.ExcOwn
import HandS.WordsExc
import HandS.EndBits
import HandS.Wide
import HandS.IsInst
import HandS.Flow
import HandS.Style
import HandS.RaiseMore
import HandS.Steps
import HandS.Conv
import HandS.More
import HandS.Deep
import HandS.SortInts
import HandS.SortKw
import HandS.Zip
import PyProof.ReprLen
import HandS.DictComp
import HandS.SortRule
import KE.DataMinMax
import PySem.Challenge.RW_stickyheads_k46_whole_folds_bring_lines
set_option Elab.async false
set_option linter.all false
set_option maxRecDepth 100000
set_option maxHeartbeats 4000000
set_option exponentiation.threshold 2000
/-! Hz, part A: calls of defs where it is known that no repr is under way. -/
namespace Hz
open PySem PySem.Spec PyProof.Rows L2 RZ

/-- room for k calls; no repr is under way -/
structure RoomG (k : Nat) (A : Around) : Prop where
  rm : Room k A
  gd : A.guards = some []
theorem RoomG.mono {j k : Nat} {A : Around} (r : RoomG k A) (h : j ≤ k) : RoomG j A := ⟨r.rm.mono h, r.gd⟩
theorem RoomG.deeper {k : Nat} {A : Around} (r : RoomG (k + 1) A) (env : Env) : RoomG k (A.deeper env) := ⟨r.rm.deeper env, r.gd⟩

/-- a def keeps its promise wherever no repr is under way -/
structure FnG (P : Program) (w : World) (K : PySem.W.Frag) (mg : Str → Option Value) (base : Heap) (CX : CXT) (k : Nat) (f : Addr) (fd : FuncData) (ps : List Str) (sp : Sp) : Prop where
  len : ∀ vs H Q E, sp vs H Q E → vs.length = ps.length
  run : ∀ (A : Around) (outer : List Env) (s : Shared) (H : Hp) (args : Args) (us : List Value) (vs : List V) (Q : VK) (E : XK),
    RoomG k A → Env0 P w K mg base A outer s H → BindsTo s fd args (ps.zip us) → Vals vs us → sp vs H Q E →
      codeAny (model P w) A (.call (.ref f) args) (CR CX outer P w H s Q E) s
theorem FnG.mono {P : Program} {w : World} {K : PySem.W.Frag} {mg : Str → Option Value} {base : Heap} {CX : CXT} {j k : Nat} {f : Addr} {fd : FuncData} {ps : List Str} {sp : Sp}
    (F : FnG P w K mg base CX j f fd ps sp) (h : j ≤ k) : FnG P w K mg base CX k f fd ps sp :=
  ⟨F.len, fun A o s H a us vs Q E r => F.run A o s H a us vs Q E (r.mono h)⟩

/-- by its body -/
theorem fnG_of {CX : CXT} {P : Program} {w : World} {K : PySem.W.Frag} {mg : Str → Option Value} {base : Heap} {k : Nat} {f : Addr} {name qual : Str}
    {params : Arguments} {body : List Stmt} {scope : Scope} {dV kV doc pm cdv ct oc : Value} {an od : Option Addr} {osl : Array (Option Value)} {N ps : List Str} {sp : Sp}
    (lk : K.lookup f = some ⟨oc, od, .func (PySem.W.fnOf name qual params body scope dV kV doc pm an cdv ct), osl⟩)
    (hcd : PySem.W.codeIn K cdv qual = true) (S : FnScope N ps scope) (len : ∀ vs H Q E, sp vs H Q E → vs.length = ps.length)
    (hbody : ∀ (A : Around) (outer : List Env) (s : Shared) (H : Hp) (vs : List V) (Q : VK) (E : XK),
      RoomG k (A.deeper (envOfC qual scope s.heap.objs.size f cdv)) → sp vs H Q E →
      ∃ t, PSs (cxOf CX P w K mg base N qual scope f cdv A outer s H E) body t ∧ t { nx := fun _ H' => Q .non H', rt := Q } (start N vs) H) :
    FnG P w K mg base CX (k + 1) f (PySem.W.fnOf name qual params body scope dV kV doc pm an cdv ct) ps sp := by
  refine ⟨len, fun A outer s H args us vs Q E hr e0 hb r hsp => ?_⟩
  have hl := len _ _ _ _ hsp
  have inK : K.In s.heap := e0.mod.kin.keeps fun b o e => (e0.bs b o e).1
  have lim : s.heap.NoLimit := e0.mod.nolimit.keeps fun b o e => (e0.bs b o e).1
  have kinds : ∀ y ∈ ps.zip us, scope.names.lookup y.1 = some .local ∨ (scope.names.lookup y.1 = some .cell ∧ ((cellsFrom (s.heap.objs.size + 1) scope.names []).lookup y.1).isSome = true) := by
    rintro ⟨n, v⟩ hy
    rcases S.par n (List.of_mem_zip hy).1 with q | q
    · exact .inl q
    · exact .inr ⟨q, PySem.W.cellsFrom_some _ _ _ (.inl q)⟩
  refine codeAny_call_function hr.rm.depth (inK _ _ lk) rfl S.co S.gen rfl (PySem.W.codeRec_of inK hcd) (hb _ _ _ _ ?_)
  refine wpAny_newFunctionEnv_cells S.kind kinds fun env he s1 x => ?_
  subst he
  refine ⟨lim.keeps x.toInCall.keep, codeAny_func ?_⟩
  obtain ⟨t, ht, hq⟩ := hbody A outer s H vs Q E (hr.deeper _) hsp
  have I : Inv (cxOf CX P w K mg base N qual scope f cdv A outer s H E) [] (start N vs) H s1 := inv_start S hr.rm.hd e0 hl r x
  refine wpAny_mono (ht.run [] s1 (start N vs) H _ I hq) (fun fl s' hs => ?_) fun e s' hs => hs
  cases fl with
  | ret u =>
    obtain ⟨v, σ', H', J, rv, q⟩ := hs
    exact ⟨v, H', J.os, J.bare, J.base, J.hok, rv, q⟩
  | next =>
    obtain ⟨σ', H', J, q⟩ := hs
    exact ⟨.non, H', J.os, J.bare, J.base, J.hok, rfl, q⟩
  | brk => obtain ⟨_, _, _, q⟩ := hs; exact q.elim
  | cont => obtain ⟨_, _, _, q⟩ := hs; exact q.elim

section
variable {P : Program} {w : World} {K : PySem.W.Frag} {mg : Str → Option Value} {base : Heap}
theorem FunOkG {CX : CXT} {x qual : Str} {st : Stmt} {f : Addr} {fd : FuncData} {N ps : List Str} {k : Nat} {sp : Sp} (F : Fun K x qual st f fd) (S : FnScope N ps (defScope st))
    (len : ∀ vs H Q E, sp vs H Q E → vs.length = ps.length)
    (hbody : ∀ (cdv : Value) (A : Around) (outer : List Env) (s : Shared) (H : Hp) (vs : List V) (Q : VK) (E : XK), RoomG k (A.deeper (envOfC qual (defScope st) s.heap.objs.size f cdv)) → sp vs H Q E →
      ∃ t, PSs (cxOf CX P w K mg base N qual (defScope st) f cdv A outer s H E) (defBody st) t ∧ t { nx := fun _ H' => Q .non H', rt := Q } (start N vs) H) : FnG P w K mg base CX (k + 1) f fd ps sp := by
  obtain ⟨oc, od, kV, doc, pm, an, cdv, ct, osl, rfl, lk, hcd⟩ := F.ex
  exact fnG_of lk hcd S len fun A outer s H vs Q E hr hsp => hbody cdv A outer s H vs Q E hr hsp
end

/-! ### calls -/
/-- the def's object in the fragment -/
def LK (K : PySem.W.Frag) (f : Addr) (fd : FuncData) : Prop := ∃ (oc : Value) (od : Option Addr) (osl : Array (Option Value)), K.lookup f = some ⟨oc, od, .func fd, osl⟩
theorem _root_.L2.Fun.lk {K : PySem.W.Frag} {x qual : Str} {st : Stmt} {f : Addr} {fd : FuncData} (F : Fun K x qual st f fd) : LK K f fd := by
  obtain ⟨oc, od, kV, doc, pm, an, cdv, ct, osl, rfl, lk, hcd⟩ := F.ex
  exact ⟨oc, od, osl, lk⟩
/-- a def of the module, by its name: it is there, its parameters bind, it keeps its promise -/
def Ok (P : Program) (w : World) (K : PySem.W.Frag) (mg : Str → Option Value) (base : Heap) (CX : CXT) (k : Nat) (x : Str) (ps : List Str) (sp : Sp) : Prop :=
  ∃ (f : Addr) (fd : FuncData), mg x = some (.ref f) ∧ PySem.W.keepIn K (.ref f) = true ∧ Binds K fd ps [] ∧ FnG P w K mg base CX k f fd ps sp ∧ LK K f fd
theorem Ok.mono {P : Program} {w : World} {K : PySem.W.Frag} {mg : Str → Option Value} {base : Heap} {CX : CXT} {j k : Nat} {x : Str} {ps : List Str} {sp : Sp} (F : Ok P w K mg base CX j x ps sp) (h : j ≤ k) : Ok P w K mg base CX k x ps sp := by
  obtain ⟨f, fd, a, b, c, d, e⟩ := F
  exact ⟨f, fd, a, b, c, d.mono h, e⟩
section
variable {X : Cx} {CX : CXT} {k : Nat} {f : Addr} {fd : FuncData} {ps : List Str} {sp : Sp} {E : L2.St → XK} {x : Str} {p pos : Pos} {e : Expr} {es : List Expr} {t : TA}
theorem runG {pins : List (Addr × Obj)} {σ : L2.St} {H : Hp} {s : Shared} {Q : VK} {us : List Value} {vs : List V} (F : FnG X.prog X.w X.K X.mg X.base CX k f fd ps sp) (hr : RoomG k X.A)
    (hb : Binds X.K fd ps []) (hx : PassesAt CX X σ (E σ)) (I : Inv X pins σ H s) (r : Vals vs us) (h : sp vs H Q (E σ)) :
    wpAny (model X.prog X.w) X.A (call (.ref f) us) (EP X pins σ Q) X.xe s := by
  have hl : us.length = ps.length := r.length.symm.trans (F.len _ _ _ _ h)
  have b : BindsTo s fd ⟨us, []⟩ (ps.zip us) := by
    have b := hb s us I.kIn (by rw [List.append_nil, hl])
    rw [List.append_nil] at b
    exact b
  refine wpAny_call (codeAny_mono (F.run X.A X.stack s H ⟨us, []⟩ us vs Q (E σ) hr I.env0 b r h) fun res s' hq => ?_)
  match res, hq with
  | .error e, hq => exact hx pins H s e s' I hq
  | .ok (.ret u), hq => exact I.after hq
  | .ok .next, hq => exact hq.elim
  | .ok .brk, hq => exact hq.elim
  | .ok .cont, hq => exact hq.elim
/-- f(e, ..) -/
theorem pe_callG (F : Ok X.prog X.w X.K X.mg X.base CX k x ps sp) (hr : RoomG k X.A) (hx : ∀ σ, PassesAt CX X σ (E σ)) (ha : PA X (e :: es) t) (hg : Gl X x := by rfl)
    (hdb : (x == ("__debug__" : Str)) = false := by decide) (he : starEach (e :: es) X.env = (false, eval e X.env) :: starEach es X.env := by rfl)
    (hpl : (backTo pos (starEach es X.env)).any (·.1) = false := by rfl) : PE X (.Call (.Name x p) (e :: es) [] pos) (tCallS sp E t) := by
  obtain ⟨f, fd, hm, hk, hb, F, _⟩ := F
  refine ⟨fun pins s σ H Q I h => wpAny_Call_Name_kw (ld_glob I hg hm (PySem.W.callWith_K (h₀ := X.base) I.ok.mod.kin hk ?_ he hpl) hdb)⟩
  exact thn (ha.run pos pins s σ H _ I h) fun us s1 ⟨vs, H1, I1, r, q⟩ => ⟨I1.kIn, runG F hr hb (hx σ) I1 r q⟩
/-- f() -/
theorem pe_callG0 (F : Ok X.prog X.w X.K X.mg X.base CX k x ps sp) (hr : RoomG k X.A) (hx : ∀ σ, PassesAt CX X σ (E σ)) (hg : Gl X x := by rfl)
    (hdb : (x == ("__debug__" : Str)) = false := by decide) : PE X (.Call (.Name x p) [] [] pos) (tCallS sp E tNil) := by
  obtain ⟨f, fd, hm, hk, hb, F, _⟩ := F
  exact ⟨fun pins s σ H Q I h => wpAny_Call_Name_kw (ld_glob I hg hm (PySem.W.callWith_K0 I.kIn hk (runG (us := []) F hr hb (hx σ) I .nil h)) hdb)⟩
/-- no exception leaves the callee -/
theorem pas0 {X : Cx} (σ : L2.St) : PassesAt CX0 X σ (fun _ _ _ => False) := fun _ _ _ _ _ _ h => h.elim
end

/-! ### repr -/
section
variable {X : Cx}
/-- repr(x), x data at any depth -/
def rRepr (K : PySem.W.Frag) : List V → Hp → VK → Prop := fun xs H Q => ∃ x d, xs = [x] ∧ Dp K H x d ∧ d.showable = true ∧ d.depth < 60 ∧ d.shown.length ≤ sizeLine ∧ Q (.str d.shown) H
mutual
theorem dp_noDict {K : PySem.W.Frag} {H : Hp} : ∀ {v : V} {d : PyData}, Dp K H v d → d.hasDict = false
  | _, _, .non => by simp only [PyData.hasDict]
  | _, _, .bl _ => by simp only [PyData.hasDict]
  | _, _, .int _ => by simp only [PyData.hasDict]
  | _, _, .str _ => by simp only [PyData.hasDict]
  | _, _, .lst _ h => by simp only [PyData.hasDict]; exact dpAll_noDict h
  | _, _, .tup _ h => by simp only [PyData.hasDict]; exact dpAll_noDict h
theorem dpAll_noDict {K : PySem.W.Frag} {H : Hp} : ∀ {vs : List V} {ds : List PyData}, DpAll K H vs ds → PyData.hasDictAll ds = false
  | _, _, .nil => by simp only [PyData.hasDictAll]
  | _, _, .cons h r => by simp only [PyData.hasDictAll, dp_noDict h, dpAll_noDict r, Bool.or_false]
end
theorem call_repr (gd : X.A.guards = some []) (hu : X.A.units + 64 < cLine) : CallR X (.builtin "repr") (rRepr X.K) := by
  intro pins s σ H xs us Q I r h
  obtain ⟨x, d, rfl, hd, hs, hk, hz, q⟩ := h
  obtain ⟨u, rfl, ru⟩ := vals1 r
  obtain ⟨as, rd⟩ := Dp.reads I d x u hd ru
  have nd := PyData.noDict_hsm (as := as) (dp_noDict hd)
  cases hd with
  | non =>
    cases (show u = Value.none from ru)
    exact PySem.P.repr_of_none ⟨.str _, H, I.tok _, ⟨_, rfl⟩, by simpa only [PyData.shown] using q⟩
  | bl b =>
    cases (show u = Value.bool b from ru)
    exact PySem.P.repr_of_bool ⟨.str _, H, I.tok _, ⟨_, rfl⟩, by simpa only [PyData.shown] using q⟩
  | int i =>
    obtain ⟨t, rfl⟩ := ru
    exact PySem.P.repr_of_int (by simpa [PyData.showable] using hs) ⟨.str _, H, I.tok _, ⟨_, rfl⟩, by simpa only [PyData.shown] using q⟩
  | str y =>
    obtain ⟨t, rfl⟩ := ru
    exact PySem.P.repr_of_str ⟨.str _, H, I.tok _, ⟨_, rfl⟩, by simpa only [PyData.shown] using q⟩ (by simpa only [PyData.shown] using hz)
  | lst _ _ =>
    cases (show u = Value.ref _ from ru)
    exact repr_of_reads' rd hs nd gd (by omega) (fun _ _ e => e) (fun h' u tk hk => ⟨.str _, H, I.kept hk, ⟨_, rfl⟩, q⟩) hz
  | tup _ _ =>
    cases (show u = Value.ref _ from ru)
    exact repr_of_reads' rd hs nd gd (by omega) (fun _ _ e => e) (fun h' u tk hk => ⟨.str _, H, I.kept hk, ⟨_, rfl⟩, q⟩) hz
end
/-- the law's own list: known by its object, or written -/
def ScrL (K : PySem.W.Frag) (H : Hp) (a : Addr) (xs : List V) : Prop := ∃ its : List Value, Vals xs its ∧ xs.length ≤ sizeLine ∧
  (H a = some (.frz { cls := .type "list", data := .seq its.toArray } (.lst xs)) ∨ K.lookup a = some { cls := .type "list", data := .seq its.toArray })
theorem ScrL.sq {K : PySem.W.Frag} {H : Hp} {a : Addr} {xs : List V} (h : ScrL K H a xs) : SqL K H a xs := by
  obtain ⟨its, r, z, h | h⟩ := h
  · exact .inl (.inr ⟨_, h⟩)
  · have e := r.length
    exact .inr ⟨_, its.toArray, _, h, rfl, rfl, rfl, by simp; omega, by simpa using r⟩
theorem ScrL.obj {X : Cx} {pins : List (Addr × Obj)} {σ : L2.St} {H : Hp} {s : Shared} {a : Addr} {xs : List V} (I : Inv X pins σ H s) (h : ScrL X.K H a xs) : ∃ its : List Value, Vals xs its ∧ s.heap.get? a = some { cls := .type "list", data := .seq its.toArray } := by
  obtain ⟨its, r, z, h | h⟩ := h
  · obtain ⟨e, _⟩ := I.hok a _ h
    exact ⟨its, r, e⟩
  · exact ⟨its, r, I.kIn a _ h⟩
/-- list + list, the left one the law's own -/
def rCatS (K : PySem.W.Frag) : R2 := fun x y H Q => ∃ l b xs zs, x = .ref l ∧ y = .ref b ∧ ScrL K H l xs ∧ H b = some (.lst zs) ∧ xs.length + zs.length ≤ sizeLine ∧ ∀ p, H p = none → Q (.ref p) (upd H p (.lst (xs ++ zs)))
theorem op_catS {X : Cx} : OpR X (binaryOp .Add) (rCatS X.K) := by
  intro pins s σ H x y v u Q I rx ry h
  obtain ⟨l, b, xs, zs, rfl, rfl, hS, hB, hz, q⟩ := h
  cases rx
  cases ry
  obtain ⟨its, r, e⟩ := ScrL.obj I hS
  obtain ⟨_, its2, n2, r2, hl2, e2⟩ := I.lstM hB
  have hl := r.length
  refine PySem.P.add_list e e2 ?_ (by rw [List.size_toArray, List.size_toArray]; omega)
  rw [show its.toArray ++ its2.toArray = (its ++ its2).toArray by simp]
  exact ⟨.ref _, _, I.lnew (t' := s.toks) (r.append r2) (by rw [List.length_append]; omega), rfl, q _ I.fresh⟩
end Hz

/-! Hz, the end of a law: from the promise of the law's def to the claim. -/
namespace Hz
open PySem PySem.Spec PyProof.Rows L2 RZ

/-- what is tracked at the law's entry: the script alone (by its object), or nothing -/
def entryHp (a : Addr) (o : Obj) (xs : List V) (own : Bool) : Hp := fun b => if own = true ∧ b = a then some (.frz o (.lst xs)) else none

theorem law_runs {P : Program} {w : World} {K : PySem.W.Frag} {mg mb : Str → Option Value} {CX : CXT} {k : Nat} {fa a : Addr} {name x : Str} {sp : Sp} {s₁ : Shared} {vs : List Value} {ns : List Int}
    (inK : K.In s₁.heap) (hns : s₁.heap.Ns mainGlobals mg) (hb : s₁.heap.Ns builtinsNs mb) (hbb : ∀ x : Str, x ≠ "__name__" → mb x = bootBuiltins x) (hlim : s₁.heap.NoLimit)
    (hg : s₁.gens = #[]) (ha : s₁.heap.get? a = some { cls := .type "list", data := .seq vs.toArray }) (hi : IntsAre vs ns) (hl : ns.length ≤ sizeLine) (hr : RoomG k callerA)
    (hfa : mg name = some (.ref fa)) (F : ∀ base : Heap, K.In base → base.Ns mainGlobals mg → Ok P w K mg base CX k name [x] sp)
    (hsp : ∀ H : Hp, Only H → ScrL K H a (ns.map V.int) → sp [.ref a] H (fun v _ => v = .bl true) fun _ _ _ => False) (hCX : ∀ H e s', CX [] H s₁ (fun _ _ _ => False) e s' → False) :
    codeAny (model P w) callerA (.call (.ref fa) ⟨[.ref a], []⟩) (fun r s' => r = .ok (.ret (.bool true)) ∧ OldK s₁.heap s'.heap ∧ s'.os = s₁.os ∧ AllBare s'.gens) s₁ := by
  have rv := vals_ints hi
  -- H: the abstract heap at the entry
  have main : ∀ H : Hp, Only H → ScrL K H a (ns.map V.int) → HOk P w H s₁.heap → (∀ b, H b ≠ none → b = a) → (H a ≠ none → K.lookup a = none) →
      codeAny (model P w) callerA (.call (.ref fa) ⟨[.ref a], []⟩) (fun r s' => r = .ok (.ret (.bool true)) ∧ OldK s₁.heap s'.heap ∧ s'.os = s₁.os ∧ AllBare s'.gens) s₁ := by
    intro H only sq hok onlyA apart
    have off : ∀ {b : Addr} {o : Obj}, s₁.heap.get? b = some o → (∀ w n, o.data ≠ .seq w n) → H b = none := by
      intro b o e nd
      cases q : H b with
      | none => rfl
      | some u =>
        obtain rfl := onlyA b (by rw [q]; simp)
        rw [ha] at e
        cases e
        exact absurd rfl (nd _ _)
    have ns' : ∀ {b : Addr} {m : Str → Option Value}, s₁.heap.Ns b m → (hidT s₁.heap H).Ns b m := by
      rintro b m ⟨o, es, ep, e, d, r⟩
      exact ⟨o, es, ep, hidT_get e (off e fun w n z => by rw [d] at z; cases z), d, r⟩
    have kb : K.In (hidT s₁.heap H) := by
      intro b o e
      refine hidT_get (inK b o e) ?_
      cases q : H b with
      | none => rfl
      | some u =>
        have z := onlyA b (by rw [q]; simp)
        rw [z] at q e
        have z2 := apart (by rw [q]; simp)
        rw [z2] at e
        cases e
    have md : Mod K mg (hidT s₁.heap H) := ⟨kb, ns' hns, ⟨mb, ns' hb, hbb⟩, let ⟨mc, h1, h2⟩ := hlim; ⟨mc, ns' h1, h2⟩⟩
    have noF : ∀ b, b ∉ frs [] := fun b z => by cases z
    have e0 : Env0 P w K mg (hidT s₁.heap H) callerA [] s₁ H := ⟨rfl, md, fun b o e => of_hidT e, Nat.le_of_eq (hidT_size _ _), trivial, fun b z => (noF b z).elim, hok, .of_eq hg⟩
    obtain ⟨f, fd, hf, _, hb, G, _⟩ := F _ kb (ns' hns)
    rw [hfa] at hf
    cases hf
    refine codeAny_mono (G.run callerA [] s₁ H ⟨[.ref a], []⟩ [.ref a] [.ref a] _ _ hr e0 (hb s₁ [.ref a] inK rfl) (.cons rfl .nil) (hsp H only sq)) fun r s' h => ?_
    match r, h with
    | .error e, h => exact (hCX H e s' h).elim
    | .ok .next, h => exact h.elim
    | .ok .brk, h => exact h.elim
    | .ok .cont, h => exact h.elim
    | .ok (.ret u), h =>
      obtain ⟨v, H', os, bare, un, hok', rv', q⟩ := h
      obtain rfl : v = .bl true := q
      obtain rfl : u = Value.bool true := rv'
      refine ⟨rfl, OldK.of_keep fun b o e => ?_, os, bare⟩
      cases q : H b with
      | none => exact un.keep b o e q (noF b) (by simp)
      | some t =>
        rcases only b with z | ⟨ob, xs, z⟩
        · rw [q] at z; cases z
        · obtain ⟨e1, _⟩ := hok b _ z
          obtain ⟨e2, _⟩ := hok' b _ (un.frzs b ob _ z)
          rw [e] at e1
          cases e1
          exact e2
  have vsz := hi.length
  cases hk : K.lookup a with
  | some o =>
    have e := inK a o hk
    rw [ha] at e
    cases e
    refine main (fun _ => none) (fun _ => .inl rfl) ⟨vs, rv, by rw [List.length_map]; exact hl, .inr hk⟩ (fun b u z => by cases (show (none : Option HO) = some u from z)) (fun b z => absurd rfl z) fun z => absurd rfl z
  | none =>
    have at_ : entryHp a { cls := .type "list", data := .seq vs.toArray } (ns.map V.int) true a = some (.frz { cls := .type "list", data := .seq vs.toArray } (.lst (ns.map V.int))) := by
      unfold entryHp; simp
    have else_ : ∀ b, b ≠ a → entryHp a { cls := .type "list", data := .seq vs.toArray } (ns.map V.int) true b = none := fun b hb => by
      unfold entryHp; simp [hb]
    refine main (entryHp a { cls := .type "list", data := .seq vs.toArray } (ns.map V.int) true) (fun b => ?_) ⟨vs, rv, by rw [List.length_map]; exact hl, .inl at_⟩ (fun b u z => ?_) (fun b z => ?_) fun _ => hk
    · by_cases hb : b = a
      · subst hb; exact .inr ⟨_, _, at_⟩
      · exact .inl (else_ b hb)
    · by_cases hb : b = a
      · subst hb
        rw [at_] at z
        cases z
        exact ⟨ha, by rw [List.length_map]; exact hl, vs, _, rv, ha⟩
      · rw [else_ b hb] at z; cases z
    · exact Decidable.byContradiction fun hb => z (else_ b hb)

/-- the claim, from the promise of the law's def; the bits of the script's ints are told -/
theorem walkG {l : PySem.W.OpenLaw} {n k : Nat} {q : Program} {loose : List Str} {XP : (Str → Option Value) → Heap → Prop} {YP : World → Heap → Prop} {d : DefRec} {K : Params → PySem.W.Frag} {CX : World → CXT} {sp : World → Sp} {x : Str}
    (hn : l.most = some n) (hn2 : n ≤ sizeLine) (hdf : d.params.defaults = []) (hr : RoomG k callerA) (hY : ∀ (w : World) (h : Heap), YP w h → (K w.params).In h)
    (F : ∀ (w : World) (mg : Str → Option Value) (fa : Addr) (h : Heap), (K w.params).In h → h.Ns mainGlobals mg → mg d.name = some (.ref fa) →
      ∀ base : Heap, (K w.params).In base → base.Ns mainGlobals mg → Ok l.prog w (K w.params) mg base (CX w) k d.name [x] (sp w))
    (hsp : ∀ (w : World) (H : Hp) (a : Addr) (ns : List Int), ns.length ≤ n → (∀ z ∈ ns, Builtin.Int.intBits z ≤ 1048576) → Only H → ScrL (K w.params) H a (ns.map V.int) → sp w [.ref a] H (fun v _ => v = .bl true) fun _ _ _ => False)
    (hCX : ∀ (w : World) (H : Hp) (s : Shared) (e : Value) (s' : Shared), CX w [] H s (fun _ _ _ => False) e s' → False) :
    PySem.W.WalkO q loose XP YP l.row.toRowW d [] (fun f vs => PySem.call f vs) := by
  refine Att.attach_callB hn hdf fun w s₀ s₁ mg mb fa o pm cd doc a vs ns G Y ho hd hcd hmg hobj hints hlen hbits hg => ?_
  have inK := hY w _ Y
  have ok := F w mg fa _ inK G.T.g hmg
  exact law_runs inK G.T.g G.T.b G.T.builtins G.T.nolimit hg hobj hints (Nat.le_trans hlen hn2) hr hmg ok (fun H hO hS => hsp w H a ns hlen hbits hO hS) fun H e s' => hCX w H s₁ e s'
end Hz

/-! Hz, part B: what is known of the heap as a ledger; readings walked from the left. -/
namespace Hz
open PySem PySem.Spec PyProof.Rows L2 RZ
abbrev SS := L2.St
abbrev Lg := List (Addr × HO)
/-- the heap holds the ledger; no address twice -/
structure Led (H : Hp) (L : Lg) : Prop where
  has : ∀ p ∈ L, H p.1 = some p.2
  nd : (L.map (·.1)).Nodup
/-- (a, o) stands in L, R is the rest -/
inductive Pick (a : Addr) (o : HO) : Lg → Lg → Prop where
  | head {R : Lg} : Pick a o ((a, o) :: R) R
  | tail {x : Addr × HO} {L R : Lg} : Pick a o L R → Pick a o (x :: L) (x :: R)
/-- M is part of L -/
inductive Sub : Lg → Lg → Prop where
  | refl {L : Lg} : Sub L L
  | drop {x : Addr × HO} {L M : Lg} : Sub L M → Sub (x :: L) M
  | take {a : Addr} {o : HO} {L R M : Lg} : Pick a o L R → Sub R M → Sub L ((a, o) :: M)
theorem Pick.perm {a : Addr} {o : HO} {L R : Lg} (h : Pick a o L R) : L.Perm ((a, o) :: R) := by
  induction h with
  | head => exact .refl _
  | tail _ ih => exact (ih.cons _).trans (.swap _ _ _)
theorem Led.perm {H : Hp} {L M : Lg} (l : Led H L) (p : L.Perm M) : Led H M :=
  ⟨fun x hx => l.has x (p.mem_iff.mpr hx), (p.map (·.1)).nodup_iff.mp l.nd⟩
theorem Led.pick {H : Hp} {a : Addr} {o : HO} {L R : Lg} (l : Led H L) (p : Pick a o L R) : Led H ((a, o) :: R) := l.perm p.perm
theorem Led.get {H : Hp} {a : Addr} {o : HO} {L R : Lg} (l : Led H L) (p : Pick a o L R) : H a = some o := (l.pick p).has (a, o) (.head _)
theorem Led.tail {H : Hp} {x : Addr × HO} {L : Lg} (l : Led H (x :: L)) : Led H L :=
  ⟨fun p hp => l.has p (.tail _ hp), (List.nodup_cons.mp l.nd).2⟩
theorem Led.put {H : Hp} {a : Addr} {o o' : HO} {R : Lg} (l : Led H ((a, o) :: R)) : Led (upd H a o') ((a, o') :: R) := by
  have n := (List.nodup_cons.mp l.nd).1
  refine ⟨fun p hp => ?_, l.nd⟩
  rcases List.mem_cons.mp hp with rfl | hp
  · exact upd_same
  · rw [upd_ne (fun e => n (List.mem_map.mpr ⟨p, hp, e⟩))]
    exact l.has p (.tail _ hp)
theorem Led.new {H : Hp} {p : Addr} {o : HO} {L : Lg} (l : Led H L) (h : H p = none) : Led (upd H p o) ((p, o) :: L) := by
  have ne : ∀ q ∈ L, q.1 ≠ p := fun q hq e => by
    have z := l.has q hq
    rw [e, h] at z
    cases z
  refine ⟨fun q hq => ?_, List.nodup_cons.mpr ⟨fun hm => ?_, l.nd⟩⟩
  · rcases List.mem_cons.mp hq with rfl | hq
    · exact upd_same
    · rw [upd_ne (ne q hq)]
      exact l.has q hq
  · obtain ⟨q, hq, e⟩ := List.mem_map.mp hm
    exact ne q hq e
theorem Led.cons {H : Hp} {a : Addr} {o : HO} {R M : Lg} (l : Led H ((a, o) :: R)) (s : ∀ x ∈ M.map (·.1), x ∈ R.map (·.1)) (m : Led H M) : Led H ((a, o) :: M) :=
  ⟨fun p hp => (List.mem_cons.mp hp).elim (fun e => by rw [e]; exact l.has _ (.head _)) (m.has p), List.nodup_cons.mpr ⟨fun h => (List.nodup_cons.mp l.nd).1 (s _ h), m.nd⟩⟩
theorem Sub.mem {L M : Lg} (s : Sub L M) : ∀ x ∈ M, x ∈ L := by
  induction s with
  | refl => exact fun _ h => h
  | drop _ ih => exact fun x h => .tail _ (ih x h)
  | take p _ ih =>
    intro x h
    rcases List.mem_cons.mp h with rfl | h
    · exact p.perm.mem_iff.mpr (.head _)
    · exact p.perm.mem_iff.mpr (.tail _ (ih x h))
theorem Led.sub {H : Hp} {L M : Lg} (l : Led H L) (s : Sub L M) : Led H M := by
  induction s with
  | refl => exact l
  | drop _ ih => exact ih l.tail
  | take p s ih =>
    refine (l.pick p).cons (fun x hx => ?_) (ih (l.pick p).tail)
    obtain ⟨q, hq, e⟩ := List.mem_map.mp hx
    exact List.mem_map.mpr ⟨q, s.mem q hq, e⟩
theorem Led.nil {H : Hp} : Led H [] := ⟨fun _ h => (nomatch h), List.nodup_nil⟩

/-- from every heap that holds L -/
def Tr (L : Lg) (G : Hp → Prop) : Prop := ∀ H, Led H L → G H
theorem Tr.of {L : Lg} {G : Hp → Prop} {H : Hp} (t : Tr L G) (l : Led H L) : G H := t H l
theorem Tr.sub {L M : Lg} {G : Hp → Prop} (t : Tr M G) (s : Sub L M) : Tr L G := fun H l => t H (l.sub s)
theorem Tr.pick {a : Addr} {o : HO} {L R : Lg} {G : Hp → Prop} (p : Pick a o L R) (t : Tr ((a, o) :: R) G) : Tr L G := fun H l => t H (l.pick p)

/-- the slot i of σ becomes x -/
inductive SetAt : SS → Nat → Option V → SS → Prop where
  | zero {x y : Option V} {r : SS} : SetAt (y :: r) 0 x (x :: r)
  | succ {i : Nat} {x y : Option V} {r r' : SS} : SetAt r i x r' → SetAt (y :: r) (i + 1) x (y :: r')
theorem SetAt.eq {σ σ' : SS} {i : Nat} {x : Option V} (h : SetAt σ i x σ') : σ.set i x = σ' := by
  induction h with
  | zero => rfl
  | succ _ ih => rw [List.set_cons_succ, ih]

/-- None -/
def isNon : V → Bool
  | .non => true
  | _ => false
theorem isNon_dec (x : V) : decide (x = .non) = isNon x := by cases x <;> first | rfl | exact decide_eq_false (fun h => nomatch h)
section
variable {L R : Lg} {σ σ' : SS} {Q : VK} {QB : Bool → Hp → Prop} {QA : List V → Hp → Prop} {G : Hp → Prop} {K : PySem.W.Frag} {ta tb tc te tl : TE} {t u : TT} {tr : TA} {v x y : V} {i : Nat} {a p : Addr} {xs : List V}
/-! ### expressions -/
theorem t_var (h : σ[i]? = some (some v)) (k : Tr L fun H => Q v H) : Tr L fun H => tVar i σ H Q := fun H l => ⟨v, h, k H l⟩
theorem t_c (k : Tr L fun H => Q v H) : Tr L fun H => tC v σ H Q := k
theorem t_op {r : R2} (k : Tr L fun H => ta σ H fun x H1 => tb σ H1 fun y H2 => r x y H2 Q) : Tr L fun H => tOp r ta tb σ H Q := k
theorem t_un {r : V → Hp → VK → Prop} (k : Tr L fun H => ta σ H fun x H1 => r x H1 Q) : Tr L fun H => tUn r ta σ H Q := k
theorem t_rI {C : Int → Int → Prop} {g : Int → Int → V} {m n : Int} (hc : C m n) (k : Tr L fun H => Q (g m n) H) : Tr L fun H => rI C g (.int m) (.int n) H Q := fun H l => ⟨m, n, rfl, rfl, hc, k H l⟩
theorem t_rI0 {g : Int → Int → V} {m n : Int} (k : Tr L fun H => Q (g m n) H) : Tr L fun H => rI0 g (.int m) (.int n) H Q := fun H l => ⟨m, n, rfl, rfl, k H l⟩
theorem t_rU {g : Int → V} {m : Int} (k : Tr L fun H => Q (g m) H) : Tr L fun H => rU g (.int m) H Q := fun H l => ⟨m, rfl, k H l⟩
theorem dec_int (m n : Int) : decide (V.int m = V.int n) = decide (m = n) := by simp
theorem dec_bl (m n : Bool) : decide (V.bl m = V.bl n) = (m == n) := by cases m <;> cases n <;> rfl
theorem dec_str (m n : Str) : decide (V.str m = V.str n) = decide (m = n) := by simp
theorem t_eqI {m n : Int} (k : Tr L fun H => Q (.bl (decide (m = n))) H) : Tr L fun H => rEq (.int m) (.int n) H Q := fun H l => ⟨rfl, by rw [dec_int]; exact k H l⟩
theorem t_eqB {m n : Bool} (k : Tr L fun H => Q (.bl (m == n)) H) : Tr L fun H => rEq (.bl m) (.bl n) H Q := fun H l => ⟨rfl, by rw [dec_bl]; exact k H l⟩
theorem t_eqS {m n : Str} (k : Tr L fun H => Q (.bl (decide (m = n))) H) : Tr L fun H => rEq (.str m) (.str n) H Q := fun H l => ⟨rfl, by rw [dec_str]; exact k H l⟩
theorem t_eq (hs : scal x y = true) (k : Tr L fun H => Q (.bl (decide (x = y))) H) : Tr L fun H => rEq x y H Q := fun H l => ⟨hs, k H l⟩
theorem t_neI {m n : Int} (k : Tr L fun H => Q (.bl (!decide (m = n))) H) : Tr L fun H => rNe (.int m) (.int n) H Q := fun H l => ⟨rfl, by rw [dec_int]; exact k H l⟩
theorem t_neB {m n : Bool} (k : Tr L fun H => Q (.bl (!(m == n))) H) : Tr L fun H => rNe (.bl m) (.bl n) H Q := fun H l => ⟨rfl, by rw [dec_bl]; exact k H l⟩
theorem t_neS {m n : Str} (k : Tr L fun H => Q (.bl (!decide (m = n))) H) : Tr L fun H => rNe (.str m) (.str n) H Q := fun H l => ⟨rfl, by rw [dec_str]; exact k H l⟩
theorem t_ne (hs : scal x y = true) (k : Tr L fun H => Q (.bl (!decide (x = y))) H) : Tr L fun H => rNe x y H Q := fun H l => ⟨hs, k H l⟩
theorem t_isN (k : Tr L fun H => Q (.bl (isNon x)) H) : Tr L fun H => rIsN x .non H Q := fun H l => ⟨rfl, by rw [isNon_dec]; exact k H l⟩
theorem t_notN (k : Tr L fun H => Q (.bl (!isNon x)) H) : Tr L fun H => rNotN x .non H Q := fun H l => ⟨rfl, by rw [isNon_dec]; exact k H l⟩
/-- a chain a < b < c -/
theorem t_chain {r r' : R2} (k : Tr L fun H => ta σ H fun x H1 => tb σ H1 fun y H2 => r x y H2 fun z H3 => ∃ k, z = .bl k ∧ (if k = true then tc σ H3 fun w' H4 => r' y w' H4 Q else Q (.bl false) H3)) : Tr L fun H => tChain r r' ta tb tc σ H Q := k
/-! ### tests -/
theorem t_test (k : Tr L fun H => te σ H fun x H1 => ∃ c, x = .bl c ∧ QB c H1) : Tr L fun H => tTest te σ H QB := k
theorem t_B (k : Tr L fun H => te σ H fun x H1 => ∃ c, x = .bl c ∧ QB c H1) : Tr L fun H => tB te σ H QB := k
theorem t_bl {b : Bool} {G : Bool → Hp → Prop} (k : Tr L fun H => G b H) : Tr L fun H => ∃ c, V.bl b = .bl c ∧ G c H := fun H l => ⟨b, rfl, k H l⟩
theorem t_and (k : Tr L fun H => t σ H fun c H1 => if c = true then u σ H1 QB else QB false H1) : Tr L fun H => tAnd t u σ H QB := k
theorem t_or (k : Tr L fun H => t σ H fun c H1 => if c = true then QB true H1 else u σ H1 QB) : Tr L fun H => tOr t u σ H QB := k
theorem t_not (k : Tr L fun H => t σ H fun c H1 => QB (!c) H1) : Tr L fun H => tNot t σ H QB := k
theorem t_andV (k : Tr L fun H => ta σ H fun x H1 => ∃ c, x = .bl c ∧ if c = true then tb σ H1 Q else Q (.bl false) H1) : Tr L fun H => tAndV ta tb σ H Q := k
theorem t_orV (k : Tr L fun H => ta σ H fun x H1 => ∃ c, x = .bl c ∧ if c = true then Q (.bl true) H1 else tb σ H1 Q) : Tr L fun H => tOrV ta tb σ H Q := k
theorem t_notV (k : Tr L fun H => ta σ H fun x H1 => ∃ c, x = .bl c ∧ Q (.bl (!c)) H1) : Tr L fun H => tNotV ta σ H Q := k
theorem t_ifE (k : Tr L fun H => t σ H fun c H1 => if c = true then ta σ H1 Q else tb σ H1 Q) : Tr L fun H => tIf t ta tb σ H Q := k
theorem t_ite {b : Bool} {G1 G2 : Hp → Prop} (h1 : b = true → Tr L G1) (h2 : b = false → Tr L G2) : Tr L fun H => if b = true then G1 H else G2 H := fun H l => by
  cases b with
  | true => rw [if_pos rfl]; exact h1 rfl H l
  | false => rw [if_neg Bool.false_ne_true]; exact h2 rfl H l
theorem t_iteD {c : Prop} [Decidable c] {G1 G2 : Hp → Prop} (h1 : c → Tr L G1) (h2 : ¬ c → Tr L G2) : Tr L fun H => if decide c = true then G1 H else G2 H :=
  t_ite (fun h => h1 (of_decide_eq_true h)) fun h => h2 (of_decide_eq_false h)
theorem t_iteND {c : Prop} [Decidable c] {G1 G2 : Hp → Prop} (h1 : ¬ c → Tr L G1) (h2 : c → Tr L G2) : Tr L fun H => if (!decide c) = true then G1 H else G2 H :=
  t_ite (fun h => h1 (by simpa using h)) fun h => h2 (by simpa using h)
theorem t_iteT {G1 G2 : Hp → Prop} (k : Tr L G1) : Tr L fun H => if true = true then G1 H else G2 H := fun H l => iteT (k H l)
theorem t_iteF {G1 G2 : Hp → Prop} (k : Tr L G2) : Tr L fun H => if false = true then G1 H else G2 H := fun H l => iteF (k H l)
theorem t_ifT {b : Bool} {G1 G2 : Hp → Prop} (h : b = true) (k : Tr L G1) : Tr L fun H => if b = true then G1 H else G2 H := t_ite (fun _ => k) fun h2 => absurd (h.symm.trans h2) (by decide)
theorem t_ifF {b : Bool} {G1 G2 : Hp → Prop} (h : b = false) (k : Tr L G2) : Tr L fun H => if b = true then G1 H else G2 H := t_ite (fun h2 => absurd (h2.symm.trans h) (by decide)) fun _ => k
/-! ### displays, arguments -/
theorem t_nil (k : Tr L fun H => QA [] H) : Tr L fun H => tNil σ H QA := k
theorem t_cons (k : Tr L fun H => ta σ H fun x H1 => tr σ H1 fun xs H2 => QA (x :: xs) H2) : Tr L fun H => tCons ta tr σ H QA := k
def newL (xs : List V) (H : Hp) (Q : VK) : Prop := xs.length ≤ sizeLine ∧ ∀ p, H p = none → Q (.ref p) (upd H p (.lst xs))
def newT (xs : List V) (H : Hp) (Q : VK) : Prop := xs.length ≤ sizeLine ∧ ∀ p, H p = none → Q (.ref p) (upd H p (.tup xs))
theorem t_lst (k : Tr L fun H => tr σ H fun xs H1 => newL xs H1 Q) : Tr L fun H => tLst tr σ H Q := k
theorem t_tup (k : Tr L fun H => tr σ H fun xs H1 => newT xs H1 Q) : Tr L fun H => tTup tr σ H Q := k
theorem t_newL (hz : xs.length ≤ sizeLine) (k : ∀ p, Tr ((p, .lst xs) :: L) fun H => Q (.ref p) H) : Tr L fun H => newL xs H Q := fun H l => ⟨hz, fun p hp => k p _ (l.new hp)⟩
theorem t_newT (hz : xs.length ≤ sizeLine) (k : ∀ p, Tr ((p, .tup xs) :: L) fun H => Q (.ref p) H) : Tr L fun H => newT xs H Q := fun H l => ⟨hz, fun p hp => k p _ (l.new hp)⟩
/-! ### calls -/
theorem t_callS {sp : Sp} {E : SS → XK} (k : Tr L fun H => tr σ H fun vs H1 => sp vs H1 Q (E σ)) : Tr L fun H => tCallS sp E tr σ H Q := k
theorem t_CB {r : List V → Hp → VK → Prop} (k : Tr L fun H => tr σ H fun vs H1 => r vs H1 Q) : Tr L fun H => tCB r tr σ H Q := k
theorem t_BM0 {T : String} {r : V → List V → Hp → VK → Prop} (k : Tr L fun H => te σ H fun x H1 => tyV K T x H1 ∧ r x [] H1 Q) : Tr L fun H => tBM0 K T r te σ H Q := k
theorem t_BM {T : String} {r : V → List V → Hp → VK → Prop} (k : Tr L fun H => te σ H fun x H1 => tyV K T x H1 ∧ tr σ H1 fun xs H2 => r x xs H2 Q) : Tr L fun H => tBM K T r te tr σ H Q := k
theorem t_tyL (hp : Pick p (.lst xs) L R) (k : Tr L G) : Tr L fun H => tyV K "list" (.ref p) H ∧ G H := fun H l => ⟨.inl ⟨rfl, xs, .inl (.inl (l.get hp))⟩, k H l⟩
theorem t_tyS {z : Str} (k : Tr L G) : Tr L fun H => tyV K "str" (.str z) H ∧ G H := fun H l => ⟨rfl, k H l⟩
theorem t_append (hp : Pick p (.lst xs) L R) (hz : xs.length < sizeLine) (k : Tr ((p, .lst (xs ++ [y])) :: R) fun H => Q .non H) : Tr L fun H => rAppend (.ref p) [y] H Q :=
  fun H l => ⟨p, xs, y, rfl, rfl, l.get hp, hz, k _ (l.pick hp).put⟩
theorem t_popM (hp : Pick p (.lst xs) L R) (hy : xs[xs.length - 1]? = some y) (k : Tr ((p, .lst xs.dropLast) :: R) fun H => Q y H) : Tr L fun H => rPop (.ref p) [] H Q :=
  fun H l => ⟨p, xs, y, rfl, rfl, l.get hp, hy, k _ (l.pick hp).put⟩
theorem t_reverse (hp : Pick p (.lst xs) L R) (k : Tr ((p, .lst xs.reverse) :: R) fun H => Q .non H) : Tr L fun H => rReverse (.ref p) [] H Q :=
  fun H l => ⟨p, xs, rfl, rfl, l.get hp, k _ (l.pick hp).put⟩
theorem t_clear (hp : Pick p (.lst xs) L R) (k : Tr ((p, .lst []) :: R) fun H => Q .non H) : Tr L fun H => rClear (.ref p) [] H Q :=
  fun H l => ⟨p, xs, rfl, rfl, l.get hp, k _ (l.pick hp).put⟩
/-! ### subscripts, slices -/
theorem sqL (hp : Pick p (.lst xs) L R) {H : Hp} (l : Led H L) : SqL K H p xs := .inl (.inl (l.get hp))
theorem sqT (hp : Pick p (.tup xs) L R) {H : Hp} (l : Led H L) : SqT K H p xs := .inl (.inl (l.get hp))
theorem t_ixL {m : Int} (hp : Pick p (.lst xs) L R) (ha : atI xs m = some v) (k : Tr L fun H => Q v H) : Tr L fun H => rIxL K (.ref p) (.int m) H Q := fun H l => ⟨p, xs, m, v, rfl, rfl, sqL hp l, ha, k H l⟩
theorem t_ixT {m : Int} (hp : Pick p (.tup xs) L R) (ha : atI xs m = some v) (k : Tr L fun H => Q v H) : Tr L fun H => rIxT K (.ref p) (.int m) H Q := fun H l => ⟨p, xs, m, v, rfl, rfl, sqT hp l, ha, k H l⟩
theorem t_ixS {z : Str} {m : Int} {c : Nat} (hz : z.length ≤ sizeLine) (ha : atI z.cps.toList m = some c) (k : Tr L fun H => Q (.str ⟨#[c]⟩) H) : Tr L fun H => rIxS (.str z) (.int m) H Q := fun H l => ⟨z, m, c, rfl, rfl, hz, ha, k H l⟩
theorem t_slice {r : V → Option Int → Option Int → Hp → VK → Prop} {lo hi : TO} (k : Tr L fun H => te σ H fun x H1 => lo σ H1 fun l H2 => hi σ H2 fun u H3 => r x l u H3 Q) : Tr L fun H => tSl r te lo hi σ H Q := k
theorem t_noPart {QO : Option Int → Hp → Prop} (k : Tr L fun H => QO none H) : Tr L fun H => tNoPart σ H QO := k
theorem t_part {QO : Option Int → Hp → Prop} (k : Tr L fun H => te σ H fun x H1 => ∃ i, x = .int i ∧ QO (some i) H1) : Tr L fun H => tPart te σ H QO := k
theorem t_int {m : Int} {G : Int → Hp → Prop} (k : Tr L fun H => G m H) : Tr L fun H => ∃ i, V.int m = .int i ∧ G i H := fun H l => ⟨m, rfl, k H l⟩
theorem t_slL {lo hi : Option Int} (hp : Pick a (.lst xs) L R) (k : ∀ p, Tr ((p, .lst (cutV xs lo hi)) :: L) fun H => Q (.ref p) H) : Tr L fun H => rSlL K (.ref a) lo hi H Q := fun H l => ⟨a, xs, rfl, sqL hp l, fun p hp' => k p _ (l.new hp')⟩
theorem t_cat {ys : List V} {R' : Lg} {b : Addr} (hp : Pick a (.lst xs) L R) (hq : Pick b (.lst ys) L R') (hz : xs.length + ys.length ≤ sizeLine) (k : ∀ p, Tr ((p, .lst (xs ++ ys)) :: L) fun H => Q (.ref p) H) :
    Tr L fun H => rCat (.ref a) (.ref b) H Q := fun H l => ⟨a, b, xs, ys, rfl, rfl, l.get hp, l.get hq, hz, fun p hp' => k p _ (l.new hp')⟩
theorem t_rep {m : Int} (hp : Pick a (.lst xs) L R) (h1 : -(2 ^ 63) ≤ m) (h2 : m < 2 ^ 63) (hz : xs.length * m.toNat ≤ sizeLine) (k : ∀ p, Tr ((p, .lst (List.replicate m.toNat xs).flatten) :: L) fun H => Q (.ref p) H) :
    Tr L fun H => rRep (.ref a) (.int m) H Q := fun H l => ⟨a, m, xs, rfl, rfl, l.get hp, h1, h2, hz, fun p hp' => k p _ (l.new hp')⟩
/-! ### statements -/
variable {D : Ends} {s1 s2 : TS} {g : TG}
theorem t_seq (k : Tr L fun H => s1 { D with nx := s2 D } σ H) : Tr L fun H => tSeq s1 s2 D σ H := k
theorem t_next (k : Tr L fun H => D.nx σ H) : Tr L fun H => tNext D σ H := k
theorem t_brk (k : Tr L fun H => D.bk σ H) : Tr L fun H => tBreak D σ H := k
theorem t_cnt (k : Tr L fun H => D.ct σ H) : Tr L fun H => tCont D σ H := k
theorem t_asg (k : Tr L fun H => te σ H fun x H1 => g x σ H1 D.nx) : Tr L fun H => tAsg te g D σ H := k
theorem t_name {Qn : SS → Hp → Prop} (hs : SetAt σ i (some v) σ') (k : Tr L fun H => Qn σ' H) : Tr L fun H => gName i v σ H Qn := fun H l => by
  show Qn (σ.set i (some v)) H
  rw [hs.eq]; exact k H l
theorem t_aug {ti : TIp} (h : σ[i]? = some (some x)) (k : Tr L fun H => te σ H fun y H1 => ti x y H1 fun z H2 => gName i z σ H2 D.nx) : Tr L fun H => tAug i te ti D σ H := fun H l => ⟨x, h, k H l⟩
theorem t_ipI {f : Int → Int → Int} {m n : Int} (k : Tr L fun H => Q (.int (f m n)) H) : Tr L fun H => ipI f (.int m) (.int n) H Q := fun H l => ⟨m, n, rfl, rfl, k H l⟩
theorem t_par {j : Nat} (k : Tr L fun H => tr σ H fun vs H1 => ∃ v w, vs = [v, w] ∧ gName i v σ H1 fun σ3 H3 => gName j w σ3 H3 D.nx) : Tr L fun H => tPar i j tr D σ H := k
theorem t_two {w : V} {G : V → V → Hp → Prop} (k : Tr L fun H => G v w H) : Tr L fun H => ∃ x y, [v, w] = [x, y] ∧ G x y H := fun H l => ⟨v, w, rfl, k H l⟩
theorem t_drop (k : Tr L fun H => te σ H fun _ H1 => D.nx σ H1) : Tr L fun H => tDrop te D σ H := k
theorem t_ret (k : Tr L fun H => te σ H D.rt) : Tr L fun H => tRet te D σ H := k
theorem t_retN (k : Tr L fun H => D.rt .non H) : Tr L fun H => tRetN D σ H := k
theorem t_if (k : Tr L fun H => t σ H fun b H1 => if b = true then s1 D σ H1 else s2 D σ H1) : Tr L fun H => tIfS t s1 s2 D σ H := k
theorem t_sub {to ti : TE} {ts : TSet} {Qn : SS → Hp → Prop} (k : Tr L fun H => to σ H fun o H1 => ti σ H1 fun i H2 => ts o i v H2 fun H3 => Qn σ H3) : Tr L fun H => gSub to ti ts v σ H Qn := k
theorem t_setL {m : Int} {j : Nat} (hp : Pick p (.lst xs) L R) (hj : ixN xs.length m = some j) (k : Tr ((p, .lst (xs.set j v)) :: R) G) : Tr L fun H => rSetL (.ref p) (.int m) v H G :=
  fun H l => ⟨p, xs, m, j, rfl, rfl, l.get hp, hj, k _ (l.pick hp).put⟩
theorem t_tupG {n : Nat} {gs : TGs} {Qn : SS → Hp → Prop} (hp : Pick a (.tup xs) L R) (hn : xs.length = n) (k : Tr L fun H => gs xs σ H Qn) : Tr L fun H => gTup K n gs (.ref a) σ H Qn := fun H l => ⟨a, xs, rfl, sqT hp l, hn, k H l⟩
theorem t_consG {gs : TGs} {Qn : SS → Hp → Prop} (k : Tr L fun H => g v σ H fun σ1 H1 => gs xs σ1 H1 Qn) : Tr L fun H => gCons g gs (v :: xs) σ H Qn := fun H l => ⟨v, xs, rfl, k H l⟩
theorem t_nilG {Qn : SS → Hp → Prop} (k : Tr L fun H => Qn σ H) : Tr L fun H => gNil [] σ H Qn := fun H l => ⟨rfl, k H l⟩
/-! ### where one goes on -/
theorem t_nx {f b c : SS → Hp → Prop} {r : VK} (k : Tr L fun H => f σ H) : Tr L fun H => (Ends.mk f r b c).nx σ H := k
theorem t_rt {f b c : SS → Hp → Prop} {r : VK} (k : Tr L fun H => r v H) : Tr L fun H => (Ends.mk f r b c).rt v H := k
theorem t_bk {f b c : SS → Hp → Prop} {r : VK} (k : Tr L fun H => b σ H) : Tr L fun H => (Ends.mk f r b c).bk σ H := k
theorem t_ct {f b c : SS → Hp → Prop} {r : VK} (k : Tr L fun H => c σ H) : Tr L fun H => (Ends.mk f r b c).ct σ H := k
end

/-! ### what is walked -/
/-- n turns; at turn i the value v with val i v L', L' what is made for it -/
structure Wk (J : It) (n : Nat) (val : Nat → V → Lg → Prop) (Src : Lg → Prop) : Prop where
  go : ∀ L H i, Src L → Led H L → i < n → J.go i H
  yld : ∀ L H i v H', Src L → Led H L → i < n → J.yld i H v H' → ∃ L', val i v L' ∧ Led H' (L' ++ L)
  stop : ∀ L H, Src L → Led H L → J.stop n H
section
variable {K : PySem.W.Frag}
/-- the ledger reads a as the list xs -/
def InL (a : Addr) (xs : List V) (L : Lg) : Prop := ∃ R, Pick a (.lst xs) L R
theorem InL.sq {a : Addr} {xs : List V} {L : Lg} {H : Hp} (h : InL a xs L) (l : Led H L) : SqL K H a xs := let ⟨_, p⟩ := h; sqL p l
theorem led_sq_inj {H : Hp} {a : Addr} {xs ys : List V} (h : H a = some (.lst xs)) (h' : SqL K H a ys) (hk : K.lookup a = none) : ys = xs := by
  rcases h' with (h' | ⟨o, h'⟩) | ⟨o, its, n, hl, _⟩
  · rw [h] at h'; cases h'; rfl
  · rw [h] at h'; cases h'
  · rw [hk] at hl; cases hl
theorem wk_list {a : Addr} {xs : List V} : Wk (Itl K a) xs.length (fun i v L' => xs[i]? = some v ∧ L' = []) (InL a xs) where
  go := fun L H i hs l hi => ⟨xs, xs[i], hs.sq l, by simp [hi]⟩
  yld := fun L H i v H' hs l hi hy => ⟨[], ⟨hy.2 xs (hs.sq l), rfl⟩, by rw [hy.1]; exact l⟩
  stop := fun L H hs l => ⟨xs, hs.sq l, Nat.le_refl _⟩
def InT (a : Addr) (xs : List V) (L : Lg) : Prop := ∃ R, Pick a (.tup xs) L R
theorem InT.sq {a : Addr} {xs : List V} {L : Lg} {H : Hp} (h : InT a xs L) (l : Led H L) : SqT K H a xs := let ⟨_, p⟩ := h; sqT p l
theorem wk_tup {a : Addr} {xs : List V} : Wk (Itt K a) xs.length (fun i v L' => xs[i]? = some v ∧ L' = []) (InT a xs) where
  go := fun L H i hs l hi => ⟨xs, xs[i], hs.sq l, by simp [hi]⟩
  yld := fun L H i v H' hs l hi hy => ⟨[], ⟨hy.2 xs (hs.sq l), rfl⟩, by rw [hy.1]; exact l⟩
  stop := fun L H hs l => ⟨xs, hs.sq l, Nat.le_refl _⟩
theorem wk_range {lo : Int} {n : Nat} : Wk (Itr lo n) n (fun i v L' => v = .int (lo + i) ∧ L' = []) (fun _ => True) where
  go := fun L H i _ _ hi => hi
  yld := fun L H i v H' _ l hi hy => ⟨[], ⟨hy.2, rfl⟩, by rw [hy.1]; exact l⟩
  stop := fun L H _ _ => Nat.le_refl n
theorem wk_range3 {lo c : Int} {n : Nat} : Wk (Itc lo c n) n (fun i v L' => v = .int (lo + i * c) ∧ L' = []) (fun _ => True) where
  go := fun L H i _ _ hi => hi
  yld := fun L H i v H' _ l hi hy => ⟨[], ⟨hy.2, rfl⟩, by rw [hy.1]; exact l⟩
  stop := fun L H _ _ => Nat.le_refl n
theorem wk_str {z : Str} : Wk (Its z) z.cps.size (fun i v L' => (∃ c, z.cps[i]? = some c ∧ v = .str ⟨#[c]⟩) ∧ L' = []) (fun _ => True) where
  go := fun L H i _ _ hi => hi
  yld := fun L H i v H' _ l hi hy => ⟨[], ⟨hy.2, rfl⟩, by rw [hy.1]; exact l⟩
  stop := fun L H _ _ => Nat.le_refl _
theorem wk_enum {a : Addr} {xs : List V} : Wk (Ite K a) xs.length (fun i v L' => ∃ T x, v = .ref T ∧ xs[i]? = some x ∧ L' = [(T, .tup [.int (i : Nat), x])]) (InL a xs) where
  go := fun L H i hs l hi => ⟨xs, xs[i], hs.sq l, by simp [hi]⟩
  yld := fun L H i v H' hs l hi hy => by
    obtain ⟨T, x, e, n, eH, q⟩ := hy
    exact ⟨_, ⟨T, x, e, q xs (hs.sq l), rfl⟩, by rw [eH]; exact l.new n⟩
  stop := fun L H hs l => ⟨xs, hs.sq l, Nat.le_refl _⟩
theorem wk_zip {a b : Addr} {xs ys : List V} : Wk (Itz K a b) (min xs.length ys.length) (fun i v L' => ∃ T x y, v = .ref T ∧ xs[i]? = some x ∧ ys[i]? = some y ∧ L' = [(T, .tup [x, y])]) (fun L => InL a xs L ∧ InL b ys L) where
  go := fun L H i hs l hi => by
    have h1 : i < xs.length := by omega
    have h2 : i < ys.length := by omega
    exact ⟨xs, ys, xs[i], ys[i], hs.1.sq l, hs.2.sq l, by simp [h1], by simp [h2]⟩
  yld := fun L H i v H' hs l hi hy => by
    obtain ⟨T, x, y, e, n, eH, q1, q2⟩ := hy
    exact ⟨_, ⟨T, x, y, e, q1 xs (hs.1.sq l), q2 ys (hs.2.sq l), rfl⟩, by rw [eH]; exact l.new n⟩
  stop := fun L H hs l => ⟨xs, ys, hs.1.sq l, hs.2.sq l, by omega⟩
end

section
variable {K : PySem.W.Frag}
theorem wk_zipT {a b : Addr} {xs ys : List V} : Wk (ItzT K a b) (min xs.length ys.length) (fun i v L' => ∃ T x y, v = .ref T ∧ xs[i]? = some x ∧ ys[i]? = some y ∧ L' = [(T, .tup [x, y])]) (fun L => InT a xs L ∧ InT b ys L) where
  go := fun L H i hs l hi => by
    have h1 : i < xs.length := by omega
    have h2 : i < ys.length := by omega
    exact ⟨xs, ys, xs[i], ys[i], hs.1.sq l, hs.2.sq l, by simp [h1], by simp [h2]⟩
  yld := fun L H i v H' hs l hi hy => by
    obtain ⟨T, x, y, e, n, eH, q1, q2⟩ := hy
    exact ⟨_, ⟨T, x, y, e, q1 xs (hs.1.sq l), q2 ys (hs.2.sq l), rfl⟩, by rw [eH]; exact l.new n⟩
  stop := fun L H hs l => ⟨xs, ys, hs.1.sq l, hs.2.sq l, by omega⟩
end
/-! ### for -/
section
variable {L : Lg} {σ : SS} {K : PySem.W.Frag} {te : TE} {tr : TA} {wi : TI} {g : TG} {tb : TS} {D : Ends}
def forK (g : TG) (tb : TS) (D : Ends) (σ : SS) (J : It) (H1 : Hp) : Prop := ∃ W : Nat → Nat → SS → Hp → Prop, (∃ m, W 0 m σ H1) ∧ ∀ i m σ H, W i m σ H →
  (J.stop i H ∧ D.nx σ H) ∨ (J.go i H ∧ ∃ N : SS → Hp → Prop, (∀ σ' H', N σ' H' → ∃ m', m' < m ∧ W (i + 1) m' σ' H') ∧ ∀ x H', J.yld i H x H' → g x σ H' fun σ2 H2 => tb { D with nx := N, ct := N, bk := D.nx } σ2 H2)
theorem t_for (k : Tr L fun H => wi σ H (forK g tb D σ)) : Tr L fun H => tFor wi g tb D σ H := k
/-- the state at a turn's end -/
def Pst {α : Type} (S : Nat → α → SS) (M : Nat → α → Lg) (I : Nat → α → Prop) (i : Nat) (σ : SS) (H : Hp) : Prop := ∃ y, I i y ∧ σ = S i y ∧ Led H (M i y)
theorem t_pst {α : Type} {S : Nat → α → SS} {M : Nat → α → Lg} {I : Nat → α → Prop} {i : Nat} (y : α) (hI : I i y) (hσ : σ = S i y) (hM : Sub L (M i y)) : Tr L fun H => Pst S M I i σ H := fun H l => ⟨y, hI, hσ, l.sub hM⟩
theorem t_forK {α : Type} {J : It} {n : Nat} {val : Nat → V → Lg → Prop} {Src : Lg → Prop} (wk : Wk J n val Src) (S : Nat → α → SS) (M : Nat → α → Lg) (I : Nat → α → Prop)
    (h0 : ∃ y, I 0 y ∧ σ = S 0 y ∧ Sub L (M 0 y)) (hsrc : ∀ i y, I i y → Src (M i y))
    (hs : ∀ i y v L', i < n → I i y → val i v L' → Tr (L' ++ M i y) fun H => g v (S i y) H fun σ2 H2 => tb { D with nx := Pst S M I (i + 1), ct := Pst S M I (i + 1), bk := D.nx } σ2 H2)
    (hd : ∀ y, I n y → Tr (M n y) fun H => D.nx (S n y) H) : Tr L fun H => forK g tb D σ J H := by
  intro H l
  obtain ⟨y0, i0, e0, s0⟩ := h0
  refine ⟨fun i m σ' H' => m = n - i ∧ i ≤ n ∧ Pst S M I i σ' H', ⟨n, by simp, Nat.zero_le _, y0, i0, e0, l.sub s0⟩, ?_⟩
  rintro i m σ' H' ⟨rfl, hi, y, iy, rfl, ly⟩
  by_cases h : i < n
  · refine .inr ⟨wk.go _ _ i (hsrc i y iy) ly h, Pst S M I (i + 1), fun σ2 H2 p => ⟨n - (i + 1), by omega, rfl, h, p⟩, fun v H2 yl => ?_⟩
    obtain ⟨L', hv, l'⟩ := wk.yld _ _ i v H2 (hsrc i y iy) ly h yl
    exact hs i y v L' h iy hv H2 l'
  · obtain rfl : i = n := by omega
    exact .inl ⟨wk.stop _ _ (hsrc i y iy) ly, hd y iy H' ly⟩
/-- the walked things -/
def itL (K : PySem.W.Frag) (x : V) (H : Hp) (R : It → Hp → Prop) : Prop := ∃ a, x = .ref a ∧ (∃ xs, SqL K H a xs) ∧ R (Itl K a) H
def itT (K : PySem.W.Frag) (x : V) (H : Hp) (R : It → Hp → Prop) : Prop := ∃ a, x = .ref a ∧ (∃ xs, SqT K H a xs) ∧ R (Itt K a) H
def itR1 (vs : List V) (H : Hp) (R : It → Hp → Prop) : Prop := ∃ j : Int, vs = [.int j] ∧ -(2 ^ 62) ≤ j ∧ j < 2 ^ 62 ∧ R (Itr 0 j.toNat) H
def itR2 (vs : List V) (H : Hp) (R : It → Hp → Prop) : Prop := ∃ i j : Int, vs = [.int i, .int j] ∧ (-(2 ^ 62) ≤ i ∧ i < 2 ^ 62 ∧ -(2 ^ 62) ≤ j ∧ j < 2 ^ 62) ∧ R (Itr i (j - i).toNat) H
def itR3 (vs : List V) (H : Hp) (R : It → Hp → Prop) : Prop := ∃ (i j c : Int) (n : Nat), vs = [.int i, .int j, .int c] ∧ RgC i j c n ∧ R (Itc i c n) H
def itE (K : PySem.W.Frag) (vs : List V) (H : Hp) (R : It → Hp → Prop) : Prop := ∃ a xs, vs = [.ref a] ∧ SqL K H a xs ∧ R (Ite K a) H
def itZ (K : PySem.W.Frag) (vs : List V) (H : Hp) (R : It → Hp → Prop) : Prop := ∃ a b xs ys, vs = [.ref a, .ref b] ∧ SqL K H a xs ∧ SqL K H b ys ∧ R (Itz K a b) H
def itS (x : V) (H : Hp) (R : It → Hp → Prop) : Prop := ∃ z, x = .str z ∧ R (Its z) H
def itZA (K : PySem.W.Frag) (vs : List V) (H : Hp) (R : It → Hp → Prop) : Prop := ∃ a b xs ys, vs = [.ref a, .ref b] ∧ ((SqL K H a xs ∧ SqL K H b ys ∧ R (Itz K a b) H) ∨ (SqT K H a xs ∧ SqT K H b ys ∧ R (ItzT K a b) H))
variable {RJ : It → Hp → Prop}
theorem t_iZA (k : Tr L fun H => tr σ H fun x H1 => itZA K x H1 RJ) : Tr L fun H => iZipA K tr σ H RJ := k
theorem t_iL (k : Tr L fun H => te σ H fun x H1 => itL K x H1 RJ) : Tr L fun H => iList K te σ H RJ := k
theorem t_iT (k : Tr L fun H => te σ H fun x H1 => itT K x H1 RJ) : Tr L fun H => iTup K te σ H RJ := k
theorem t_iR1 (k : Tr L fun H => tr σ H fun x H1 => itR1 x H1 RJ) : Tr L fun H => iRng1 tr σ H RJ := k
theorem t_iR2 (k : Tr L fun H => tr σ H fun x H1 => itR2 x H1 RJ) : Tr L fun H => iRng2 tr σ H RJ := k
theorem t_iR3 (k : Tr L fun H => tr σ H fun x H1 => itR3 x H1 RJ) : Tr L fun H => iRng3 tr σ H RJ := k
theorem t_iE (k : Tr L fun H => tr σ H fun x H1 => itE K x H1 RJ) : Tr L fun H => iEnum K tr σ H RJ := k
theorem t_iZ (k : Tr L fun H => tr σ H fun x H1 => itZ K x H1 RJ) : Tr L fun H => iZip K tr σ H RJ := k
theorem t_iS (k : Tr L fun H => te σ H fun x H1 => itS x H1 RJ) : Tr L fun H => iStr te σ H RJ := k
variable {R R' : Lg} {a b : Addr} {xs ys : List V}
theorem t_itL (hp : Pick a (.lst xs) L R) (k : Tr L fun H => RJ (Itl K a) H) : Tr L fun H => itL K (.ref a) H RJ := fun H l => ⟨a, rfl, ⟨xs, sqL hp l⟩, k H l⟩
theorem t_itT (hp : Pick a (.tup xs) L R) (k : Tr L fun H => RJ (Itt K a) H) : Tr L fun H => itT K (.ref a) H RJ := fun H l => ⟨a, rfl, ⟨xs, sqT hp l⟩, k H l⟩
theorem t_itR1 {j : Int} (h1 : -(2 ^ 62) ≤ j) (h2 : j < 2 ^ 62) (k : Tr L fun H => RJ (Itr 0 j.toNat) H) : Tr L fun H => itR1 [.int j] H RJ := fun H l => ⟨j, rfl, h1, h2, k H l⟩
theorem t_itR2 {i j : Int} (h1 : -(2 ^ 62) ≤ i ∧ i < 2 ^ 62 ∧ -(2 ^ 62) ≤ j ∧ j < 2 ^ 62) (k : Tr L fun H => RJ (Itr i (j - i).toNat) H) : Tr L fun H => itR2 [.int i, .int j] H RJ := fun H l => ⟨i, j, rfl, h1, k H l⟩
theorem t_itR3 {i j c : Int} {n : Nat} (h1 : RgC i j c n) (k : Tr L fun H => RJ (Itc i c n) H) : Tr L fun H => itR3 [.int i, .int j, .int c] H RJ := fun H l => ⟨i, j, c, n, rfl, h1, k H l⟩
theorem t_itE (hp : Pick a (.lst xs) L R) (k : Tr L fun H => RJ (Ite K a) H) : Tr L fun H => itE K [.ref a] H RJ := fun H l => ⟨a, xs, rfl, sqL hp l, k H l⟩
theorem t_itZ (hp : Pick a (.lst xs) L R) (hq : Pick b (.lst ys) L R') (k : Tr L fun H => RJ (Itz K a b) H) : Tr L fun H => itZ K [.ref a, .ref b] H RJ := fun H l => ⟨a, b, xs, ys, rfl, sqL hp l, sqL hq l, k H l⟩
theorem t_itZL (hp : Pick a (.lst xs) L R) (hq : Pick b (.lst ys) L R') (k : Tr L fun H => RJ (Itz K a b) H) : Tr L fun H => itZA K [.ref a, .ref b] H RJ := fun H l => ⟨a, b, xs, ys, rfl, .inl ⟨sqL hp l, sqL hq l, k H l⟩⟩
theorem t_itZT (hp : Pick a (.tup xs) L R) (hq : Pick b (.tup ys) L R') (k : Tr L fun H => RJ (ItzT K a b) H) : Tr L fun H => itZA K [.ref a, .ref b] H RJ := fun H l => ⟨a, b, xs, ys, rfl, .inr ⟨sqT hp l, sqT hq l, k H l⟩⟩
theorem t_itS {z : Str} (k : Tr L fun H => RJ (Its z) H) : Tr L fun H => itS (.str z) H RJ := fun H l => ⟨z, rfl, k H l⟩
theorem t_nxP {α : Type} {S : Nat → α → SS} {M : Nat → α → Lg} {I : Nat → α → Prop} {i : Nat} {r : VK} {b c : SS → Hp → Prop} (k : Tr L fun H => Pst S M I i σ H) : Tr L fun H => Ends.nx ⟨Pst S M I i, r, b, c⟩ σ H := k
theorem t_ctP {α : Type} {S : Nat → α → SS} {M : Nat → α → Lg} {I : Nat → α → Prop} {i : Nat} {r : VK} {f b : SS → Hp → Prop} (k : Tr L fun H => Pst S M I i σ H) : Tr L fun H => Ends.ct ⟨f, r, b, Pst S M I i⟩ σ H := k
/-! ### while -/
/-- the state at the end of a while's turn -/
def Wst {α : Type} (S : α → SS) (M : α → Lg) (I : α → Prop) (μ : α → Nat) (n : Nat) (σ : SS) (H : Hp) : Prop := ∃ z, I z ∧ μ z < n ∧ σ = S z ∧ Led H (M z)
theorem t_nxW {α : Type} {S : α → SS} {M : α → Lg} {I : α → Prop} {μ : α → Nat} {n : Nat} {r : VK} {b c : SS → Hp → Prop} (k : Tr L fun H => Wst S M I μ n σ H) : Tr L fun H => Ends.nx ⟨Wst S M I μ n, r, b, c⟩ σ H := k
theorem t_ctW {α : Type} {S : α → SS} {M : α → Lg} {I : α → Prop} {μ : α → Nat} {n : Nat} {r : VK} {f b : SS → Hp → Prop} (k : Tr L fun H => Wst S M I μ n σ H) : Tr L fun H => Ends.ct ⟨f, r, b, Wst S M I μ n⟩ σ H := k
theorem t_while {α : Type} {tc : TT} (S : α → SS) (M : α → Lg) (I : α → Prop) (μ : α → Nat) (h0 : ∃ y, I y ∧ σ = S y ∧ Sub L (M y))
    (hs : ∀ y, I y → ∃ b, (∀ QB : Bool → Hp → Prop, Tr (M y) (fun H => QB b H) → Tr (M y) fun H => tc (S y) H QB) ∧
      (b = true → Tr (M y) fun H => tb { D with nx := Wst S M I μ (μ y), ct := Wst S M I μ (μ y), bk := D.nx } (S y) H) ∧
      (b = false → Tr (M y) fun H => D.nx (S y) H)) : Tr L fun H => tWhile tc tb D σ H := by
  intro H l
  obtain ⟨y0, i0, e0, s0⟩ := h0
  refine ⟨fun m σ' H' => ∃ y, m = μ y ∧ I y ∧ σ' = S y ∧ Led H' (M y), ⟨μ y0, y0, rfl, i0, e0, l.sub s0⟩, ?_⟩
  rintro m σ' H' ⟨y, rfl, iy, rfl, ly⟩
  obtain ⟨b, h1, h2, h3⟩ := hs y iy
  refine h1 _ (fun H2 l2 => ?_) H' ly
  cases b with
  | true =>
    rw [if_pos rfl]
    exact ⟨_, fun σ3 H3 ⟨z, iz, lt, e, lz⟩ => ⟨μ z, lt, z, rfl, iz, e, lz⟩, h2 rfl H2 l2⟩
  | false =>
    rw [if_neg Bool.false_ne_true]
    exact h3 rfl H2 l2
theorem t_whl {α : Type} {S : α → SS} {M : α → Lg} {I : α → Prop} {μ : α → Nat} {n : Nat} (y : α) (hI : I y) (hm : μ y < n) (hσ : σ = S y) (hM : Sub L (M y)) : Tr L fun H => Wst S M I μ n σ H :=
  fun H l => ⟨y, hI, hm, hσ, l.sub hM⟩
end

/-! ### list comprehensions -/
section
variable {L : Lg} {σ σ0 : SS} {K : PySem.W.Frag} {wi : TI} {g : TG} {tt : TT} {te : TE} {vs : List Nat} {Q : VK}
def lcK (g : TG) (tt : TT) (te : TE) (vs : List Nat) (σ : SS) (Q : VK) (J : It) (H1 : Hp) : Prop := ∀ D, H1 D = none → ∃ W : Nat → Nat → Hp → Prop, (∃ m, W 0 m (upd H1 D (.lst []))) ∧ ∀ i m H, W i m H →
  (J.stop i H ∧ Q (.ref D) H) ∨ (J.go i H ∧ ∃ Nx : Hp → Prop, (∀ H', Nx H' → ∃ m', m' < m ∧ W (i + 1) m' H') ∧ ∀ x H', J.yld i H x H' → g x (wipe σ vs) H' fun σ2 H2 => wipe σ2 vs = wipe σ vs ∧ tt σ2 H2 fun b H3 =>
    if b = true then te σ2 H3 fun y H4 => ∃ acc, H4 D = some (.lst acc) ∧ acc.length < sizeLine ∧ Nx (upd H4 D (.lst (acc ++ [y]))) else Nx H3)
theorem t_lc (k : Tr L fun H => wi σ H (lcK g tt te vs σ Q)) : Tr L fun H => tLc wi g tt te vs σ H Q := k
/-- an item is added to the new list -/
def lcAdd (D : Addr) (N : Hp → Prop) (y : V) (H : Hp) : Prop := ∃ acc, H D = some (.lst acc) ∧ acc.length < sizeLine ∧ N (upd H D (.lst (acc ++ [y])))
def lcNx {α : Type} (M : Nat → α → Lg) (out : Nat → α → List V) (I : Nat → α → Prop) (D : Addr) (i : Nat) (H : Hp) : Prop := ∃ y, I i y ∧ Led H ((D, .lst (out i y)) :: M i y)
theorem t_lcAdd {α : Type} {M : Nat → α → Lg} {out : Nat → α → List V} {I : Nat → α → Prop} {D : Addr} {i : Nat} {acc : List V} {R : Lg} {v : V} (y : α) (hI : I i y) (hp : Pick D (.lst acc) L R) (hz : acc.length < sizeLine)
    (he : acc ++ [v] = out i y) (hM : Sub R (M i y)) : Tr L fun H => lcAdd D (lcNx M out I D i) v H := fun H l => by
  refine ⟨acc, l.get hp, hz, y, hI, ?_⟩
  rw [he]
  have l2 := (l.pick hp).put (o' := .lst (out i y))
  exact l2.sub (.take .head hM)
theorem t_lcSkip {α : Type} {M : Nat → α → Lg} {out : Nat → α → List V} {I : Nat → α → Prop} {D : Addr} {i : Nat} (y : α) (hI : I i y) (hM : Sub L ((D, .lst (out i y)) :: M i y)) : Tr L fun H => lcNx M out I D i H := fun H l => ⟨y, hI, l.sub hM⟩
theorem t_lcK {α : Type} {J : It} {n : Nat} {val : Nat → V → Lg → Prop} {Src : Lg → Prop} (wk : Wk J n val Src) (hw : wipe σ vs = σ0) (M : Nat → α → Lg) (out : Nat → α → List V) (I : Nat → α → Prop)
    (h0 : ∃ y, I 0 y ∧ out 0 y = [] ∧ Sub L (M 0 y)) (hsrc : ∀ D i y, I i y → Src ((D, .lst (out i y)) :: M i y))
    (hs : ∀ D i y v L', i < n → I i y → val i v L' → Tr (L' ++ (D, .lst (out i y)) :: M i y) fun H => g v σ0 H fun σ2 H2 => wipe σ2 vs = σ0 ∧ tt σ2 H2 fun b H3 =>
      if b = true then te σ2 H3 (lcAdd D (lcNx M out I D (i + 1))) else lcNx M out I D (i + 1) H3)
    (hd : ∀ D y, I n y → Tr ((D, .lst (out n y)) :: M n y) fun H => Q (.ref D) H) : Tr L fun H => lcK g tt te vs σ Q J H := by
  intro H l D hD
  obtain ⟨y0, i0, e0, s0⟩ := h0
  have start : lcNx M out I D 0 (upd H D (.lst [])) := ⟨y0, i0, by rw [e0]; exact (l.new hD).sub (.take .head s0)⟩
  refine ⟨fun i m H' => m = n - i ∧ i ≤ n ∧ lcNx M out I D i H', ⟨n, by simp, Nat.zero_le _, start⟩, ?_⟩
  rintro i m H' ⟨rfl, hi, y, iy, ly⟩
  by_cases h : i < n
  · refine .inr ⟨wk.go _ _ i (hsrc D i y iy) ly h, lcNx M out I D (i + 1), fun H2 p => ⟨n - (i + 1), by omega, rfl, h, p⟩, fun v H2 yl => ?_⟩
    obtain ⟨L', hv, l'⟩ := wk.yld _ _ i v H2 (hsrc D i y iy) ly h yl
    rw [hw]
    exact hs D i y v L' h iy hv H2 l'
  · obtain rfl : i = n := by omega
    exact .inl ⟨wk.stop _ _ (hsrc D i y iy) ly, hd D y iy H' ly⟩
theorem t_wiped {G : Hp → Prop} {σ2 : SS} (hw : wipe σ2 vs = σ0) (k : Tr L G) : Tr L fun H => wipe σ2 vs = σ0 ∧ G H := fun H l => ⟨hw, k H l⟩
theorem t_yes {QB : Bool → Hp → Prop} (k : Tr L fun H => QB true H) : Tr L fun H => tYes σ H QB := k
end
end Hz
namespace Hz
open PySem PySem.Spec PyProof.Rows L2 RZ
/-- the slot i of σ holds v -/
inductive GetAt : SS → Nat → V → Prop where
  | zero {v : V} {r : SS} : GetAt (some v :: r) 0 v
  | succ {i : Nat} {v : V} {y : Option V} {r : SS} : GetAt r i v → GetAt (y :: r) (i + 1) v
theorem GetAt.eq {σ : SS} {i : Nat} {v : V} (h : GetAt σ i v) : σ[i]? = some (some v) := by
  induction h with
  | zero => rfl
  | succ _ ih => rw [List.getElem?_cons_succ, ih]
section
variable {L R : Lg} {σ σ' : SS} {Q : VK} {te : TE} {D : Ends} {v x : V} {i : Nat}
theorem t_varA (h : GetAt σ i v) (k : Tr L fun H => Q v H) : Tr L fun H => tVar i σ H Q := t_var h.eq k
theorem t_augA {ti : TIp} (h : GetAt σ i x) (k : Tr L fun H => te σ H fun y H1 => ti x y H1 fun z H2 => gName i z σ H2 D.nx) : Tr L fun H => tAug i te ti D σ H := t_aug h.eq k
end
end Hz

/-! Hz, rules with readings that bear a name. -/
namespace Hz
open PySem PySem.Spec PyProof.Rows L2 RZ
/-! ### the module's names -/
/-- a constant of the module -/
def GV (mg : Str → Option Value) (x : Str) (v : V) : Prop := ∃ u, mg x = some u ∧ RelV v u
section
variable {X : Cx}
theorem pe_gv {x : Str} {v : V} {pos : Pos} (h : GV X.mg x v) (hg : Gl X x := by rfl) (hd : (x == ("__debug__" : Str)) = false := by decide) (hc : (x == ("__classdict__" : Str)) = false := by decide) : PE X (.Name x pos) (tC v) := by
  obtain ⟨u, hm, r⟩ := h
  exact pe_glob hg hm r hd
/-! ### numbers -/
def cPow (i j : Int) : Prop := 0 ≤ j ∧ (Builtin.Int.intBits i : Int) * j ≤ 2 ^ 27
theorem op_powW : OpR X (binaryOp .Pow) (rI cPow fun i j => .int (i ^ j.toNat)) := opI fun _ _ _ _ _ _ _ hc q => pow_int hc.1 hc.2 q
def cMul (i j : Int) : Prop := (-(2 ^ 64) < i ∧ i < 2 ^ 64) ∨ (-(2 ^ 64) < j ∧ j < 2 ^ 64) ∨ CMulW i j
theorem op_mulA : OpR X (binaryOp .Mult) (rI cMul fun i j => .int (i * j)) := opI fun _ _ _ _ _ _ _ hc q => by
  rcases hc with h | h | h
  · exact mul_int q (CMul.ok (.inl h))
  · exact mul_int q (CMul.ok (.inr h))
  · exact mul_int q h.ok
def rMax2 : List V → Hp → VK → Prop := fun xs H Q => ∃ i j, xs = [.int i, .int j] ∧ Q (.int (max i j)) H
def rMin2 : List V → Hp → VK → Prop := fun xs H Q => ∃ i j, xs = [.int i, .int j] ∧ Q (.int (min i j)) H
theorem max_ite (i j : Int) : (if j > i then j else i) = max i j := by split <;> omega
theorem min_ite (i j : Int) : (if j < i then j else i) = min i j := by split <;> omega
theorem c_max2 (hc : X.calm = true) : CallR X (.builtin "max") rMax2 := fun pins s σ H xs us Q I r ⟨i, j, e, q⟩ => call_max2 hc pins s σ H xs us Q I r ⟨i, j, e, by rw [max_ite]; exact q⟩
theorem c_min2 (hc : X.calm = true) : CallR X (.builtin "min") rMin2 := fun pins s σ H xs us Q I r ⟨i, j, e, q⟩ => call_min2 hc pins s σ H xs us Q I r ⟨i, j, e, by rw [min_ite]; exact q⟩
def rInt : List V → Hp → VK → Prop := fun xs H Q => (∃ i, xs = [.int i] ∧ Q (.int i) H) ∨ ∃ k, xs = [.bl k] ∧ Q (.int (if k then 1 else 0)) H
theorem c_int : CallR X (.type "int") rInt := call_int1
/-! ### len, isinstance, list(..), tuple(..) -/
def rLen (K : PySem.W.Frag) : List V → Hp → VK → Prop := fun xs H Q => ∃ x n, xs = [x] ∧ LenV K x H n ∧ Q (.int n) H
theorem c_len : CallR X (.builtin "len") (rLen X.K) := call_len
def rIs (K : PySem.W.Frag) : List V → Hp → VK → Prop := fun xs H Q => ∃ (x c : V) (t u : Value) (b : Bool), xs = [x, c] ∧ ClsV c u ∧ TyX K H x t ∧ PySem.W.kitOne K t u = some b ∧ Q (.bl b) H
theorem c_is : CallR X (.builtin "isinstance") (rIs X.K) := call_isi
def rIsT (K : PySem.W.Frag) : List V → Hp → VK → Prop := fun xs H Q => ∃ (x : V) (tp : Addr) (cs : List V) (t : Value) (us : List Value) (b : Bool), xs = [x, .ref tp] ∧ H tp = some (.tup cs) ∧ Paired ClsV cs us ∧ TyX K H x t ∧ PySem.W.kitAny K t us = some b ∧ Q (.bl b) H
theorem c_isT : CallR X (.builtin "isinstance") (rIsT X.K) := call_isiT
def rList (K : PySem.W.Frag) : List V → Hp → VK → Prop := fun xs H Q => ∃ p ys, xs = [.ref p] ∧ (SqL K H p ys ∨ SqT K H p ys) ∧ ∀ l, H l = none → Q (.ref l) (upd H l (.lst ys))
theorem c_list : CallR X (.type "list") (rList X.K) := call_list_of
def rTuple (K : PySem.W.Frag) : List V → Hp → VK → Prop := fun xs H Q => ∃ p ys, xs = [.ref p] ∧ ((SqL K H p ys ∧ ∀ l, H l = none → Q (.ref l) (upd H l (.tup ys))) ∨ (SqT K H p ys ∧ Q (.ref p) H))
theorem c_tuple : CallR X (.type "tuple") (rTuple X.K) := call_tuple_of
end
/-! ### their steps -/
section
variable {L R : Lg} {Q : VK} {K : PySem.W.Frag} {a p : Addr} {xs : List V} {σ : SS}
theorem t_max2 {i j : Int} (k : Tr L fun H => Q (.int (max i j)) H) : Tr L fun H => rMax2 [.int i, .int j] H Q := fun H l => ⟨i, j, rfl, k H l⟩
theorem t_min2 {i j : Int} (k : Tr L fun H => Q (.int (min i j)) H) : Tr L fun H => rMin2 [.int i, .int j] H Q := fun H l => ⟨i, j, rfl, k H l⟩
theorem t_intB {b : Bool} (k : Tr L fun H => Q (.int (if b then 1 else 0)) H) : Tr L fun H => rInt [.bl b] H Q := fun H l => .inr ⟨b, rfl, k H l⟩
theorem t_intI {i : Int} (k : Tr L fun H => Q (.int i) H) : Tr L fun H => rInt [.int i] H Q := fun H l => .inl ⟨i, rfl, k H l⟩
theorem t_lenL (hp : Pick p (.lst xs) L R) (k : Tr L fun H => Q (.int xs.length) H) : Tr L fun H => rLen K [.ref p] H Q := fun H l => ⟨_, _, rfl, .inl ⟨xs, sqL hp l, rfl⟩, k H l⟩
theorem t_lenT (hp : Pick p (.tup xs) L R) (k : Tr L fun H => Q (.int xs.length) H) : Tr L fun H => rLen K [.ref p] H Q := fun H l => ⟨_, _, rfl, .inr ⟨xs, sqT hp l, rfl⟩, k H l⟩
theorem t_lenS {z : Str} (hz : z.length ≤ sizeLine) (k : Tr L fun H => Q (.int z.length) H) : Tr L fun H => rLen K [.str z] H Q := fun H l => ⟨_, _, rfl, ⟨hz, rfl⟩, k H l⟩
/-- the type's name of a value that is no object -/
def tyN : V → String
  | .non => "NoneType"
  | .bl _ => "bool"
  | .int _ => "int"
  | .str _ => "str"
  | .byt _ => "bytes"
  | .flt _ => "float"
  | _ => "?"
theorem tyN_of {x : V} {H : Hp} (h : (tyN x == "?") = false) : TyX K H x (.type (tyN x)) := by
  cases x with
  | non => exact .base .non
  | bl b => exact .base (.bl b)
  | int i => exact .base (.int i)
  | str z => exact .base (.str z)
  | byt b => exact .byt b
  | flt b => exact .base (.flt b)
  | ref a => cases h
  | ty n => cases h
theorem t_isV {x : V} {C : String} {b : Bool} (hn : (tyN x == "?") = false) (hb : kitB (tyN x) C = some b) (k : Tr L fun H => Q (.bl b) H) : Tr L fun H => rIs K [x, .ty C] H Q :=
  fun H l => ⟨x, .ty C, _, _, b, rfl, .ty C, tyN_of hn, kit_ty hb, k H l⟩
theorem t_isL {C : String} {b : Bool} (hp : Pick p (.lst xs) L R) (hb : kitB "list" C = some b) (k : Tr L fun H => Q (.bl b) H) : Tr L fun H => rIs K [.ref p, .ty C] H Q :=
  fun H l => ⟨_, .ty C, _, _, b, rfl, .ty C, .base (.lst (l.get hp)), kit_ty hb, k H l⟩
theorem t_isT {C : String} {b : Bool} (hp : Pick p (.tup xs) L R) (hb : kitB "tuple" C = some b) (k : Tr L fun H => Q (.bl b) H) : Tr L fun H => rIs K [.ref p, .ty C] H Q :=
  fun H l => ⟨_, .ty C, _, _, b, rfl, .ty C, .base (.tup (l.get hp)), kit_ty hb, k H l⟩
theorem t_isD {C : String} {b : Bool} {kvs : List (Key × V)} (hp : Pick p (.dK kvs) L R) (hb : kitB "dict" C = some b) (k : Tr L fun H => Q (.bl b) H) : Tr L fun H => rIs K [.ref p, .ty C] H Q :=
  fun H l => ⟨_, .ty C, _, _, b, rfl, .ty C, .base (.dK (l.get hp)), kit_ty hb, k H l⟩
/-- one of several types -/
def kitBs (T : String) : List String → Option Bool
  | [] => some false
  | C :: r => match kitB T C with
    | some true => some true
    | some false => kitBs T r
    | none => none
theorem kitBs_any : ∀ {T : String} {Cs : List String} {b : Bool}, kitBs T Cs = some b → PySem.W.kitAny K (.type T) (Cs.map Value.type) = some b
  | T, [], b, h => by
    cases h
    exact kitAny_nil
  | T, C :: r, b, h => by
    unfold kitBs at h
    cases e : kitB T C with
    | none => rw [e] at h; cases h
    | some c =>
      rw [e] at h
      cases c with
      | true => cases h; exact kitAny_cons (kit_ty e) (fun z => nomatch z) fun _ => rfl
      | false => exact kitAny_cons (kit_ty e) (fun _ => kitBs_any h) fun z => nomatch z
theorem cls_tys : ∀ Cs : List String, Paired ClsV (Cs.map V.ty) (Cs.map Value.type)
  | [] => .nil
  | C :: r => .cons (.ty C) (cls_tys r)
theorem t_isTV {x : V} {Cs : List String} {b : Bool} {tp : Addr} (hp : Pick tp (.tup (Cs.map V.ty)) L R) (hn : (tyN x == "?") = false) (hb : kitBs (tyN x) Cs = some b) (k : Tr L fun H => Q (.bl b) H) : Tr L fun H => rIsT K [x, .ref tp] H Q :=
  fun H l => ⟨x, tp, _, _, _, b, rfl, l.get hp, cls_tys Cs, tyN_of hn, kitBs_any hb, k H l⟩
theorem t_isTL {R' : Lg} {Cs : List String} {b : Bool} {tp : Addr} (hp : Pick tp (.tup (Cs.map V.ty)) L R) (hq : Pick p (.lst xs) L R') (hb : kitBs "list" Cs = some b) (k : Tr L fun H => Q (.bl b) H) : Tr L fun H => rIsT K [.ref p, .ref tp] H Q :=
  fun H l => ⟨_, tp, _, _, _, b, rfl, l.get hp, cls_tys Cs, .base (.lst (l.get hq)), kitBs_any hb, k H l⟩
theorem t_isTT {R' : Lg} {Cs : List String} {b : Bool} {tp : Addr} (hp : Pick tp (.tup (Cs.map V.ty)) L R) (hq : Pick p (.tup xs) L R') (hb : kitBs "tuple" Cs = some b) (k : Tr L fun H => Q (.bl b) H) : Tr L fun H => rIsT K [.ref p, .ref tp] H Q :=
  fun H l => ⟨_, tp, _, _, _, b, rfl, l.get hp, cls_tys Cs, .base (.tup (l.get hq)), kitBs_any hb, k H l⟩
theorem t_isTD {R' : Lg} {Cs : List String} {b : Bool} {tp : Addr} {kvs : List (Key × V)} (hp : Pick tp (.tup (Cs.map V.ty)) L R) (hq : Pick p (.dK kvs) L R') (hb : kitBs "dict" Cs = some b) (k : Tr L fun H => Q (.bl b) H) : Tr L fun H => rIsT K [.ref p, .ref tp] H Q :=
  fun H l => ⟨_, tp, _, _, _, b, rfl, l.get hp, cls_tys Cs, .base (.dK (l.get hq)), kitBs_any hb, k H l⟩
theorem t_listL (hp : Pick a (.lst xs) L R) (k : ∀ p, Tr ((p, .lst xs) :: L) fun H => Q (.ref p) H) : Tr L fun H => rList K [.ref a] H Q := fun H l => ⟨a, xs, rfl, .inl (sqL hp l), fun p hp' => k p _ (l.new hp')⟩
theorem t_listT (hp : Pick a (.tup xs) L R) (k : ∀ p, Tr ((p, .lst xs) :: L) fun H => Q (.ref p) H) : Tr L fun H => rList K [.ref a] H Q := fun H l => ⟨a, xs, rfl, .inr (sqT hp l), fun p hp' => k p _ (l.new hp')⟩
theorem t_tupleL (hp : Pick a (.lst xs) L R) (k : ∀ p, Tr ((p, .tup xs) :: L) fun H => Q (.ref p) H) : Tr L fun H => rTuple K [.ref a] H Q := fun H l => ⟨a, xs, rfl, .inl ⟨sqL hp l, fun p hp' => k p _ (l.new hp')⟩⟩
/-- list(range(..)) -/
def newRg (m n : Int) (H : Hp) (Q : VK) : Prop := RgOk m n ∧ ∀ q, H q = none → Q (.ref q) (upd H q (.lst (rgV m n)))
theorem t_lstRg {te : SS → Hp → (Int → Int → Hp → Prop) → Prop} (k : Tr L fun H => te σ H fun m n H1 => newRg m n H1 Q) : Tr L fun H => tLstRg te σ H Q := k
theorem t_rg1 {te : TE} {QQ : Int → Int → Hp → Prop} (k : Tr L fun H => te σ H fun x H1 => ∃ n, x = .int n ∧ QQ 0 n H1) : Tr L fun H => tRg1 te σ H QQ := k
theorem t_rg2 {te tf : TE} {QQ : Int → Int → Hp → Prop} (k : Tr L fun H => te σ H fun x H1 => tf σ H1 fun y H2 => ∃ i j, x = .int i ∧ y = .int j ∧ QQ i j H2) : Tr L fun H => tRg2 te tf σ H QQ := k
theorem t_int2 {m n : Int} {G : Int → Int → Hp → Prop} (k : Tr L fun H => G m n H) : Tr L fun H => ∃ i j, V.int m = .int i ∧ V.int n = .int j ∧ G i j H := fun H l => ⟨m, n, rfl, rfl, k H l⟩
theorem t_newRg {m n : Int} (h : RgOk m n) (k : ∀ p, Tr ((p, .lst (rgV m n)) :: L) fun H => Q (.ref p) H) : Tr L fun H => newRg m n H Q := fun H l => ⟨h, fun p hp => k p _ (l.new hp)⟩
/-- xs[::-1] -/
def newRev (K : PySem.W.Frag) (x : V) (H : Hp) (Q : VK) : Prop := ∃ a xs, x = .ref a ∧ SqL K H a xs ∧ ∀ p, H p = none → Q (.ref p) (upd H p (.lst xs.reverse))
theorem t_revL {te : TE} (k : Tr L fun H => te σ H fun x H1 => newRev K x H1 Q) : Tr L fun H => tRevL K te σ H Q := k
theorem t_newRev (hp : Pick a (.lst xs) L R) (k : ∀ p, Tr ((p, .lst xs.reverse) :: L) fun H => Q (.ref p) H) : Tr L fun H => newRev K (.ref a) H Q := fun H l => ⟨a, xs, rfl, sqL hp l, fun p hp' => k p _ (l.new hp')⟩
theorem t_isB {m n : Bool} (k : Tr L fun H => Q (.bl (decide (m = n))) H) : Tr L fun H => rIsB (.bl m) (.bl n) H Q := fun H l => ⟨m, n, rfl, rfl, k H l⟩
theorem t_notB {m n : Bool} (k : Tr L fun H => Q (.bl (!decide (m = n))) H) : Tr L fun H => rNotB (.bl m) (.bl n) H Q := fun H l => ⟨m, n, rfl, rfl, k H l⟩
theorem t_all {bs : List Bool} (hp : Pick a (.lst (bs.map V.bl)) L R) (k : Tr L fun H => Q (.bl (bs.all id)) H) : Tr L fun H => rAll K [.ref a] H Q := fun H l => ⟨a, bs, rfl, sqL hp l, k H l⟩
theorem t_any {bs : List Bool} (hp : Pick a (.lst (bs.map V.bl)) L R) (k : Tr L fun H => Q (.bl (bs.any id)) H) : Tr L fun H => rAny K [.ref a] H Q := fun H l => ⟨a, bs, rfl, sqL hp l, k H l⟩
theorem t_sum {ns : List Int} (hp : Pick a (.lst (ns.map V.int)) L R) (k : Tr L fun H => Q (.int ns.sum) H) : Tr L fun H => rSum K [.ref a] H Q := fun H l => ⟨a, ns, rfl, sqL hp l, k H l⟩
theorem t_maxL {ns : List Int} (hp : Pick a (.lst (ns.map V.int)) L R) (h0 : 0 < ns.length) (k : ∀ m, m ∈ ns → (∀ y, y ∈ ns → y ≤ m) → Tr L fun H => Q (.int m) H) : Tr L fun H => rMax K [.ref a] H Q := fun H l => ⟨a, ns, rfl, sqL hp l, h0, fun m h1 h2 => k m h1 h2 H l⟩
theorem t_minL {ns : List Int} (hp : Pick a (.lst (ns.map V.int)) L R) (h0 : 0 < ns.length) (k : ∀ m, m ∈ ns → (∀ y, y ∈ ns → m ≤ y) → Tr L fun H => Q (.int m) H) : Tr L fun H => rMin K [.ref a] H Q := fun H l => ⟨a, ns, rfl, sqL hp l, h0, fun m h1 h2 => k m h1 h2 H l⟩
/-- data by the ledger -/
def DpL (K : PySem.W.Frag) (L : Lg) (x : V) (d : PyData) : Prop := ∀ H, Led H L → Dp K H x d
theorem dpAll_ints {H : Hp} : ∀ ns : List Int, DpAll K H (ns.map V.int) (ns.map PyData.int)
  | [] => .nil
  | n :: r => .cons (.int n) (dpAll_ints r)
theorem dpl_ints {ns : List Int} (hp : Pick a (.lst (ns.map V.int)) L R) : DpL K L (.ref a) (.list (ns.map PyData.int)) := fun H l => .lst (sqL hp l) (dpAll_ints ns)
theorem t_repr {x : V} {d : PyData} (hd : DpL K L x d) (hs : d.showable = true) (hk : d.depth < 60) (hz : d.shown.length ≤ sizeLine) (k : Tr L fun H => Q (.str d.shown) H) : Tr L fun H => rRepr K [x] H Q :=
  fun H l => ⟨x, d, rfl, hd H l, hs, hk, hz, k H l⟩
theorem t_eqD {x y : V} {d e : PyData} (hd : DpL K L x d) (he : DpL K L y e) (sd : SeqAt.shaped d = true) (se : SeqAt.shaped e = true) (k : Tr L fun H => Q (.bl (PyData.eqv d e)) H) : Tr L fun H => rEqD K x y H Q :=
  fun H l => ⟨d, e, hd H l, he H l, sd, se, k H l⟩
theorem t_neD {x y : V} {d e : PyData} (hd : DpL K L x d) (he : DpL K L y e) (sd : SeqAt.shaped d = true) (se : SeqAt.shaped e = true) (k : Tr L fun H => Q (.bl (!PyData.eqv d e)) H) : Tr L fun H => rNeD K x y H Q :=
  fun H l => ⟨d, e, hd H l, he H l, sd, se, k H l⟩
end
end Hz

/-! Hz, part D: data by the ledger; defs by name; types by the ledger. -/
namespace Hz
open PySem PySem.Spec PyProof.Rows L2 RZ
/-! ### a def of the text, by its name -/
def Df (K : PySem.W.Frag) (mg : Str → Option Value) (x : Str) (st : Stmt) : Prop := ∃ (f : Addr) (fd : FuncData), mg x = some (.ref f) ∧ Fun K x x st f fd
/-- the built-in names are the built-ins -/
structure Blt (mg : Str → Option Value) : Prop where
  len_ : mg "len" = none
  isinstance_ : mg "isinstance" = none
  int_ : mg "int" = none
  bool_ : mg "bool" = none
  str_ : mg "str" = none
  list_ : mg "list" = none
  tuple_ : mg "tuple" = none
  dict_ : mg "dict" = none
  set_ : mg "set" = none
  range_ : mg "range" = none
  enumerate_ : mg "enumerate" = none
  zip_ : mg "zip" = none
  repr_ : mg "repr" = none
  max_ : mg "max" = none
  min_ : mg "min" = none
  all_ : mg "all" = none
  any_ : mg "any" = none
  sum_ : mg "sum" = none
  sorted_ : mg "sorted" = none
  abs_ : mg "abs" = none
theorem boot_len : bootBuiltins "len" = some (.builtin "len") := PySem.boot_len
theorem boot_min : bootBuiltins "min" = some (.builtin "min") := by decide +kernel
theorem boot_max : bootBuiltins "max" = some (.builtin "max") := by decide +kernel
theorem boot_all : bootBuiltins "all" = some (.builtin "all") := by decide +kernel
theorem boot_any : bootBuiltins "any" = some (.builtin "any") := by decide +kernel
theorem boot_sum : bootBuiltins "sum" = some (.builtin "sum") := by decide +kernel
/-- a promise that nobody can call upon: for the branch that is never walked -/
def spNo : Sp := fun _ _ _ _ => False
theorem okNo {P : Program} {w : World} {K : PySem.W.Frag} {mg : Str → Option Value} {base : Heap} {CX : CXT} {x : Str} {st : Stmt} {ps : List Str} (D : Df K mg x st)
    (b : ∀ fd f, Fun K x x st f fd → Binds K fd ps []) : Ok P w K mg base CX 0 x ps spNo := by
  obtain ⟨f, fd, hm, F⟩ := D
  exact ⟨f, fd, hm, F.kp, b _ _ F, ⟨fun _ _ _ _ h => h.elim, fun _ _ _ _ _ _ _ _ _ _ _ _ _ h => h.elim⟩, F.lk⟩
theorem pe_ty {X : Cx} {x : Str} {T : String} {pos : Pos} (hm : X.mg x = none) (hv : bootBuiltins x = some (.type T)) (hg : Gl X x := by rfl) (hn : x ≠ "__name__" := by decide) (hd : (x == ("__debug__" : Str)) = false := by decide) :
    PE X (.Name x pos) (tC (.ty T)) := pe_bltn hg hm hv (show RelV (.ty T) (.type T) from rfl) hn hd
/-! ### picks and members -/
theorem Pick.mem {a : Addr} {o : HO} {L R : Lg} (h : Pick a o L R) : (a, o) ∈ L := h.perm.mem_iff.mpr (.head _)
theorem Pick.of_mem {a : Addr} {o : HO} : ∀ {L : Lg}, (a, o) ∈ L → ∃ R, Pick a o L R
  | _ :: L, h => by
    cases h with
    | head => exact ⟨_, .head⟩
    | tail _ h => obtain ⟨R, p⟩ := Pick.of_mem h; exact ⟨_, p.tail⟩
/-- the type's name of a value -/
inductive HasTy (L : Lg) : V → String → Prop where
  | non : HasTy L .non "NoneType"
  | bl (b : Bool) : HasTy L (.bl b) "bool"
  | int (i : Int) : HasTy L (.int i) "int"
  | str (z : Str) : HasTy L (.str z) "str"
  | lst {a : Addr} {xs : List V} : (a, .lst xs) ∈ L → HasTy L (.ref a) "list"
  | tup {a : Addr} {xs : List V} : (a, .tup xs) ∈ L → HasTy L (.ref a) "tuple"
  | dct {a : Addr} {kvs : List (Key × V)} : (a, .dK kvs) ∈ L → HasTy L (.ref a) "dict"
theorem HasTy.mono {L M : Lg} {x : V} {T : String} (h : HasTy L x T) (s : ∀ p ∈ L, p ∈ M) : HasTy M x T := by
  cases h with
  | non => exact .non
  | bl b => exact .bl b
  | int i => exact .int i
  | str z => exact .str z
  | lst m => exact .lst (s _ m)
  | tup m => exact .tup (s _ m)
  | dct m => exact .dct (s _ m)
def tyNames : List String := ["NoneType", "bool", "int", "str", "list", "tuple", "dict"]
theorem HasTy.name {L : Lg} {x : V} {T : String} (h : HasTy L x T) : T ∈ tyNames := by cases h <;> decide +kernel
theorem HasTy.tyx {K : PySem.W.Frag} {L : Lg} {H : Hp} {x : V} {T : String} (h : HasTy L x T) (l : Led H L) : TyX K H x (.type T) := by
  cases h with
  | non => exact .base .non
  | bl b => exact .base (.bl b)
  | int i => exact .base (.int i)
  | str z => exact .base (.str z)
  | lst m => exact .base (.lst (l.has _ m))
  | tup m => exact .base (.tup (l.has _ m))
  | dct m => exact .base (.dK (l.has _ m))
/-- isinstance by the types' names -/
def isB (T C : String) : Bool := T == C || (T == "bool" && C == "int")
theorem kitB_isB {T C : String} (h : T ∈ tyNames) (hc : C ∈ tyNames) : kitB T C = some (isB T C) := by
  have all : (tyNames.all fun T => tyNames.all fun C => decide (kitB T C = some (isB T C))) = true := by decide +kernel
  exact of_decide_eq_true (List.all_eq_true.mp (List.all_eq_true.mp all T h) C hc)
section
variable {L R : Lg} {Q : VK} {K : PySem.W.Frag} {x : V} {T : String}
theorem t_is {C : String} (h : HasTy L x T) (hc : C ∈ tyNames) (k : Tr L fun H => Q (.bl (isB T C)) H) : Tr L fun H => rIs K [x, .ty C] H Q :=
  fun H l => ⟨x, .ty C, _, _, _, rfl, .ty C, h.tyx l, kit_ty (kitB_isB h.name hc), k H l⟩
theorem kitBs_isB {T : String} (h : T ∈ tyNames) : ∀ Cs : List String, (∀ C ∈ Cs, C ∈ tyNames) → kitBs T Cs = some (Cs.any (isB T))
  | [], _ => rfl
  | C :: r, hc => by
    unfold kitBs
    rw [kitB_isB h (hc C (.head _)), List.any_cons]
    cases isB T C with
    | true => rfl
    | false => exact kitBs_isB h r fun D hD => hc D (.tail _ hD)
theorem t_isTs {Cs : List String} {tp : Addr} (hp : Pick tp (.tup (Cs.map V.ty)) L R) (h : HasTy L x T) (hc : ∀ C ∈ Cs, C ∈ tyNames) (k : Tr L fun H => Q (.bl (Cs.any (isB T))) H) : Tr L fun H => rIsT K [x, .ref tp] H Q :=
  fun H l => ⟨x, tp, _, _, _, _, rfl, l.get hp, cls_tys Cs, h.tyx l, kitBs_any (kitBs_isB h.name Cs hc), k H l⟩
end
/-! ### data -/
mutual
inductive Dt (L : Lg) : V → PyData → Prop where
  | non : Dt L .non .none
  | bl (b : Bool) : Dt L (.bl b) (.bool b)
  | int (i : Int) : Dt L (.int i) (.int i)
  | str (z : Str) : Dt L (.str z) (.str z)
  | lst {a : Addr} {xs : List V} {ds : List PyData} : (a, .lst xs) ∈ L → DtAll L xs ds → Dt L (.ref a) (.list ds)
  | tup {a : Addr} {xs : List V} {ds : List PyData} : (a, .tup xs) ∈ L → DtAll L xs ds → Dt L (.ref a) (.tuple ds)
inductive DtAll (L : Lg) : List V → List PyData → Prop where
  | nil : DtAll L [] []
  | cons {x : V} {xs : List V} {d : PyData} {ds : List PyData} : Dt L x d → DtAll L xs ds → DtAll L (x :: xs) (d :: ds)
end
mutual
theorem Dt.mono {L M : Lg} (s : ∀ p ∈ L, p ∈ M) : ∀ {x : V} {d : PyData}, Dt L x d → Dt M x d
  | _, _, .non => .non
  | _, _, .bl b => .bl b
  | _, _, .int i => .int i
  | _, _, .str z => .str z
  | _, _, .lst m h => .lst (s _ m) (DtAll.mono s h)
  | _, _, .tup m h => .tup (s _ m) (DtAll.mono s h)
theorem DtAll.mono {L M : Lg} (s : ∀ p ∈ L, p ∈ M) : ∀ {xs : List V} {ds : List PyData}, DtAll L xs ds → DtAll M xs ds
  | _, _, .nil => .nil
  | _, _, .cons h r => .cons (Dt.mono s h) (DtAll.mono s r)
end
mutual
theorem Dt.dp {K : PySem.W.Frag} {L : Lg} {H : Hp} (l : Led H L) : ∀ {x : V} {d : PyData}, Dt L x d → Dp K H x d
  | _, _, .non => .non
  | _, _, .bl b => .bl b
  | _, _, .int i => .int i
  | _, _, .str z => .str z
  | _, _, .lst m h => .lst (.inl (.inl (l.has _ m))) (DtAll.dp l h)
  | _, _, .tup m h => .tup (.inl (.inl (l.has _ m))) (DtAll.dp l h)
theorem DtAll.dp {K : PySem.W.Frag} {L : Lg} {H : Hp} (l : Led H L) : ∀ {xs : List V} {ds : List PyData}, DtAll L xs ds → DpAll K H xs ds
  | _, _, .nil => .nil
  | _, _, .cons h r => .cons (Dt.dp l h) (DtAll.dp l r)
end
theorem Dt.dpl {K : PySem.W.Frag} {L : Lg} {x : V} {d : PyData} (h : Dt L x d) : DpL K L x d := fun _ l => h.dp l
theorem DtAll.len {L : Lg} : ∀ {xs : List V} {ds : List PyData}, DtAll L xs ds → xs.length = ds.length
  | _, _, .nil => rfl
  | _, _, .cons _ r => by rw [List.length_cons, List.length_cons, r.len]
theorem DtAll.get {L : Lg} : ∀ {xs : List V} {ds : List PyData} {i : Nat} {x : V}, DtAll L xs ds → xs[i]? = some x → ∃ d, ds[i]? = some d ∧ Dt L x d
  | _, _, 0, _, .cons h _, e => by cases e; exact ⟨_, rfl, h⟩
  | _, _, i + 1, _, .cons _ r, e => r.get (i := i) (by simpa using e)
theorem DtAll.ints {L : Lg} : ∀ ns : List Int, DtAll L (ns.map V.int) (ns.map PyData.int)
  | [] => .nil
  | n :: r => .cons (.int n) (DtAll.ints r)
theorem Dt.ints {L : Lg} {a : Addr} {ns : List Int} (h : (a, .lst (ns.map V.int)) ∈ L) : Dt L (.ref a) (.list (ns.map PyData.int)) := .lst h (.ints ns)
theorem Dt.intsT {L : Lg} {a : Addr} {ns : List Int} (h : (a, .tup (ns.map V.int)) ∈ L) : Dt L (.ref a) (.tuple (ns.map PyData.int)) := .tup h (.ints ns)
theorem DtAll.bools {L : Lg} : ∀ bs : List Bool, DtAll L (bs.map V.bl) (bs.map PyData.bool)
  | [] => .nil
  | n :: r => .cons (.bl n) (DtAll.bools r)
mutual
/-- no list of it is longer than a list may be -/
def wide : PyData → Bool
  | .list ds | .tuple ds => decide (ds.length ≤ 100000) && wideAll ds
  | _ => true
def wideAll : List PyData → Bool
  | [] => true
  | d :: r => wide d && wideAll r
end
theorem wideAll_mem : ∀ {ds : List PyData} {d : PyData}, wideAll ds = true → d ∈ ds → wide d = true
  | e :: r, d, h, m => by
    rw [wideAll, Bool.and_eq_true] at h
    rcases List.mem_cons.mp m with rfl | m
    · exact h.1
    · exact wideAll_mem h.2 m
theorem wideAll_ints : ∀ ns : List Int, wideAll (ns.map PyData.int) = true
  | [] => by simp only [List.map_nil, wideAll]
  | n :: r => by simp only [List.map_cons, wideAll, wide, wideAll_ints r, Bool.and_self]
theorem wide_ints {ns : List Int} (h : ns.length ≤ 100000) : wide (.list (ns.map PyData.int)) = true := by
  rw [wide, wideAll_ints, List.length_map, decide_eq_true h]; rfl
theorem wide_intsT {ns : List Int} (h : ns.length ≤ 100000) : wide (.tuple (ns.map PyData.int)) = true := by
  rw [wide, wideAll_ints, List.length_map, decide_eq_true h]; rfl
def dtName : PyData → String
  | .none => "NoneType" | .bool _ => "bool" | .int _ => "int" | .str _ => "str" | .list _ => "list" | .tuple _ => "tuple" | .dict _ => "dict"
theorem Dt.ty {L : Lg} {x : V} {d : PyData} (h : Dt L x d) : HasTy L x (dtName d) := by
  cases h with
  | non => exact .non
  | bl b => exact .bl b
  | int i => exact .int i
  | str z => exact .str z
  | lst m _ => exact .lst m
  | tup m _ => exact .tup m
end Hz
namespace Hz
open PySem PySem.Spec PyProof.Rows L2 RZ
section
variable {L R' : Lg} {σ σ0 : SS} {g : TG} {tt : TT} {te : TE} {vs : List Nat} {Q : VK}
theorem take_more {α : Type} {R : List α} {i : Nat} {v : α} (h : R[i]? = some v) : R.take (i + 1) = R.take i ++ [v] := by
  rw [List.take_add_one, h]; rfl
/-- a comprehension that keeps every item, its elements told by a list -/
def lcMp (L : Lg) (R : List V) (D : Addr) (i : Nat) : Hp → Prop := lcNx (fun _ (_ : Unit) => L) (fun i _ => R.take i) (fun _ _ => True) D i
theorem t_lcMp {D : Addr} {i : Nat} {v : V} {R : List V} {M : Lg} {R2 : Lg} (hp : Pick D (.lst (R.take i)) M R2) (hv : R[i]? = some v) (hz : R.length ≤ sizeLine) (hM : Sub R2 L) : Tr M fun H => lcAdd D (lcMp L R D (i + 1)) v H := by
  refine t_lcAdd () trivial hp ?_ (take_more hv).symm hM
  have := (List.getElem?_eq_some_iff.mp hv).1
  rw [List.length_take]
  omega
theorem t_lcMap {J : It} {n : Nat} {val : Nat → V → Lg → Prop} {Src : Lg → Prop} (wk : Wk J n val Src) (hw : wipe σ vs = σ0) (R : List V) (hR : R.length = n) (hsrc : ∀ x, Src (x :: L))
    (hs : ∀ D i v L', i < n → val i v L' → Tr (L' ++ (D, .lst (R.take i)) :: L) fun H => g v σ0 H fun σ2 H2 => wipe σ2 vs = σ0 ∧ tt σ2 H2 fun b H3 => if b = true then te σ2 H3 (lcAdd D (lcMp L R D (i + 1))) else lcMp L R D (i + 1) H3)
    (hd : ∀ D, Tr ((D, .lst R) :: L) fun H => Q (.ref D) H) : Tr L fun H => lcK g tt te vs σ Q J H :=
  t_lcK wk hw (fun _ (_ : Unit) => L) (fun i _ => R.take i) (fun _ _ => True) ⟨(), trivial, rfl, .refl⟩ (fun D i y _ => hsrc _) (fun D i y v L' hi _ hv => hs D i v L' hi hv) fun D y _ => by
    rw [show R.take n = R from List.take_of_length_le (by omega)]
    exact hd D
theorem InL.cons {a : Addr} {xs : List V} {x : Addr × HO} (h : InL a xs L) : InL a xs (x :: L) := let ⟨_, p⟩ := h; ⟨_, p.tail⟩
theorem InT.cons {a : Addr} {xs : List V} {x : Addr × HO} (h : InT a xs L) : InT a xs (x :: L) := let ⟨_, p⟩ := h; ⟨_, p.tail⟩
theorem InL.of {a : Addr} {xs : List V} (h : (a, .lst xs) ∈ L) : InL a xs L := Pick.of_mem h
theorem InT.of {a : Addr} {xs : List V} (h : (a, .tup xs) ∈ L) : InT a xs L := Pick.of_mem h
/-- a list's text in the ledger is told otherwise -/
theorem Tr.lcast {a : Addr} {xs ys : List V} {G : Hp → Prop} (e : xs = ys) (t : Tr ((a, .lst ys) :: L) G) : Tr ((a, .lst xs) :: L) G := by rw [e]; exact t
end
end Hz
namespace Hz
open PySem PySem.Spec PyProof.Rows L2 RZ
section
variable {K : PySem.W.Frag} {h : Heap} {mg : Str → Option Value}
/-- a def as the head tells it -/
theorem df_mk (X : K.In h) (G : h.Ns mainGlobals mg) {x : Str} {st : Stmt} {f : Addr} {od an : Option Addr} {sl : Array (Option Value)} {oc kV dc pm cd ct : Value}
    (a : PySem.W.nsIn K mainGlobals x = some (some (.ref f))) (l : K.lookup f = some ⟨oc, od, .func (PySem.W.fnOf x x (defArgs st) (defBody st) (defScope st) .none kV dc pm an cd ct), sl⟩)
    (c : PySem.W.codeIn K cd x = true) (k : PySem.W.keepIn K (.ref f) = true) : Df K mg x st := ⟨f, _, PySem.W.mg_of X G a, fun_mk l c k⟩
theorem gv_mk (X : K.In h) (G : h.Ns mainGlobals mg) {x : Str} {v : V} {u : Value} (a : PySem.W.nsIn K mainGlobals x = some (some u)) (r : RelV v u) : GV mg x v := ⟨u, PySem.W.mg_of X G a, r⟩
theorem no_mk (X : K.In h) (G : h.Ns mainGlobals mg) {x : Str} (a : PySem.W.nsIn K mainGlobals x = some none) : mg x = none := PySem.W.mg_none_of X G a
end
end Hz

namespace Hz
open PySem PySem.Spec PyProof.Rows L2 RZ
/-! ### keywords -/
/-- the values by place, if they are m and n -/
def gP {α : Type} (m n : Nat) (is : List Nat) (us ws : List α) : List α := bif us.length == m && ws.length == n then is.filterMap fun i => (us ++ ws)[i]? else []
theorem vals_get {vs : List V} {us : List Value} (r : Vals vs us) : ∀ i : Nat, (∃ v u, vs[i]? = some v ∧ us[i]? = some u ∧ RelV v u) ∨ (vs[i]? = none ∧ us[i]? = none) := by
  induction r with
  | nil => intro i; exact .inr ⟨rfl, rfl⟩
  | cons h _ ih =>
    intro i
    cases i with
    | zero => exact .inl ⟨_, _, rfl, rfl, h⟩
    | succ i => simpa using ih i
theorem gP_rel (m n : Nat) (is : List Nat) {vs : List V} {us : List Value} {zs : List V} {ws : List Value} (r : Vals vs us) (q : Vals zs ws) : Vals (gP m n is vs zs) (gP m n is us ws) := by
  unfold gP
  rw [r.length, q.length]
  cases (us.length == m && ws.length == n) with
  | false => exact .nil
  | true =>
    have a := vals_get (r.append q)
    simp only [cond_true]
    induction is with
    | nil => exact .nil
    | cons i is ih =>
      rw [List.filterMap_cons, List.filterMap_cons]
      rcases a i with ⟨v, u, h1, h2, h3⟩ | ⟨h1, h2⟩
      · rw [h1, h2]; exact .cons h3 ih
      · rw [h1, h2]; exact ih
def tCallGK (sp : Sp) (m n : Nat) (is : List Nat) (E : L2.St → XK) (t tk : TA) : TE := fun σ H Q => t σ H fun vs H1 => tk σ H1 fun zs H2 => sp (gP m n is vs zs) H2 Q (E σ)
section
variable {X : Cx} {CX : CXT} {k : Nat} {ps ks : List Str} {sp : Sp} {E : L2.St → XK} {x : Str} {p pos : Pos} {e : Expr} {es : List Expr} {kws : List Keyword} {t tk : TA} {st : Stmt} {m n : Nat} {is : List Nat}
theorem run_GK {pins : List (Addr × Obj)} {σ : L2.St} {H : Hp} {s : Shared} {Q : VK} {us ws : List Value} {vs zs : List V} {f : Addr} {fd : FuncData} (F : FnG X.prog X.w X.K X.mg X.base CX k f fd ps sp) (hr : RoomG k X.A)
    (hb : (gP m n is us ws).length = ps.length → BindsTo s fd ⟨us, ks.zip ws⟩ (ps.zip (gP m n is us ws))) (hx : PassesAt CX X σ (E σ)) (I : Inv X pins σ H s) (r : Vals vs us) (rz : Vals zs ws) (h : sp (gP m n is vs zs) H Q (E σ)) :
    wpAny (model X.prog X.w) X.A (call (.ref f) us (ks.zip ws)) (EP X pins σ Q) X.xe s := by
  have r2 := gP_rel m n is r rz
  have hl : (gP m n is us ws).length = ps.length := by rw [← r2.length]; exact F.len _ _ _ _ h
  refine wpAny_call (codeAny_mono (F.run X.A X.stack s H ⟨us, ks.zip ws⟩ _ _ Q (E σ) hr I.env0 (hb hl) r2 h) fun r s' hq => ?_)
  match r, hq with
  | .error e, hq => exact hx pins H s e s' I hq
  | .ok (.ret u), hq => exact I.after hq
  | .ok .next, hq => exact hq.elim
  | .ok .brk, hq => exact hq.elim
  | .ok .cont, hq => exact hq.elim
theorem gP_shape {α : Type} {us ws : List α} {k : Nat} (h : (gP m n is us ws).length = k + 1) : us.length = m ∧ ws.length = n := by
  unfold gP at h
  cases e : (us.length == m && ws.length == n) with
  | true =>
    rw [Bool.and_eq_true, beq_iff_eq, beq_iff_eq] at e
    exact e
  | false => rw [e] at h; cases h
/-- f(e, .., a = v, ..) -/
theorem pe_callGK (D : Df X.K X.mg x st) (F : Ok X.prog X.w X.K X.mg X.base CX k x ps sp) (hr : RoomG k X.A) (hx : ∀ σ, PassesAt CX X σ (E σ)) (m n : Nat) (is : List Nat) (ks : List Str) (hps : ∃ k, ps.length = k + 1)
    (hb : ∀ (kV doc pm : Value) (an : Option Addr) (cdv ct : Value) (us ws : List Value), us.length = m → ws.length = n → bindArgs (PySem.W.fnOf x x (defArgs st) (defBody st) (defScope st) .none kV doc pm an cdv ct) ⟨us, ks.zip ws⟩ = pure (ps.zip (gP m n is us ws)))
    (ha : PA X (e :: es) t) (hkw : PK X kws tk) (hg : Gl X x := by rfl) (hall : (backToKw pos (keywordEach kws X.env)).all (·.1.isSome) = true := by rfl) (hks : (backToKw pos (keywordEach kws X.env)).filterMap (·.1) = ks := by rfl)
    (hdb : (x == ("__debug__" : Str)) = false := by decide) (he : starEach (e :: es) X.env = (false, eval e X.env) :: starEach es X.env := by rfl)
    (hpl : ((backTo pos (starEach (e :: es) X.env)).any (·.1) || (backToKw pos (keywordEach kws X.env)).any (·.1.isNone)) = false := by rfl) : PE X (.Call (.Name x p) (e :: es) kws pos) (tCallGK sp m n is E t tk) := by
  obtain ⟨f, fd, hm, hk, _, F, oc, od, osl, lk⟩ := F
  obtain ⟨f', fd', hm', G⟩ := D
  obtain ⟨oc', od', kV, doc, pm, an, cdv, ct, osl', rfl, lk', hcd⟩ := G.ex
  rw [hm] at hm'
  cases hm'
  rw [lk] at lk'
  cases lk'
  refine ⟨fun pins s σ H Q I h => wpAny_Call_Name_kw (ld_glob I hg hm (PySem.W.callWith_KW (h₀ := X.base) I.ok.mod.kin hk hall ?_ hpl he) hdb)⟩
  refine thn (ha.run pos pins s σ H _ I h) fun us s1 ⟨vs, H1, I1, r, q⟩ => ?_
  refine thn (hkw.run pos pins s1 σ H1 _ I1 q) fun ws s2 ⟨zs, H2, I2, rz, q2⟩ => ⟨I2.kIn, ?_⟩
  rw [hks]
  refine run_GK F hr (fun hl => ?_) (hx σ) I2 r rz q2
  obtain ⟨k, ek⟩ := hps
  obtain ⟨h1, h2⟩ := gP_shape (hl.trans ek)
  exact .of_eq (hb kV doc pm an cdv ct us ws h1 h2)
/-- f(a = v, ..) -/
theorem pe_callGK0 (D : Df X.K X.mg x st) (F : Ok X.prog X.w X.K X.mg X.base CX k x ps sp) (hr : RoomG k X.A) (hx : ∀ σ, PassesAt CX X σ (E σ)) (n : Nat) (is : List Nat) (ks : List Str) (hps : ∃ k, ps.length = k + 1)
    (hb : ∀ (kV doc pm : Value) (an : Option Addr) (cdv ct : Value) (us ws : List Value), us.length = 0 → ws.length = n → bindArgs (PySem.W.fnOf x x (defArgs st) (defBody st) (defScope st) .none kV doc pm an cdv ct) ⟨us, ks.zip ws⟩ = pure (ps.zip (gP 0 n is us ws)))
    (hkw : PK X kws tk) (hg : Gl X x := by rfl) (hall : (backToKw pos (keywordEach kws X.env)).all (·.1.isSome) = true := by rfl) (hks : (backToKw pos (keywordEach kws X.env)).filterMap (·.1) = ks := by rfl)
    (hdb : (x == ("__debug__" : Str)) = false := by decide)
    (hpl : ((backTo pos (starEach [] X.env)).any (·.1) || (backToKw pos (keywordEach kws X.env)).any (·.1.isNone)) = false := by rfl) : PE X (.Call (.Name x p) [] kws pos) (tCallGK sp 0 n is E tNil tk) := by
  obtain ⟨f, fd, hm, hk, _, F, oc, od, osl, lk⟩ := F
  obtain ⟨f', fd', hm', G⟩ := D
  obtain ⟨oc', od', kV, doc, pm, an, cdv, ct, osl', rfl, lk', hcd⟩ := G.ex
  rw [hm] at hm'
  cases hm'
  rw [lk] at lk'
  cases lk'
  refine ⟨fun pins s σ H Q I h => wpAny_Call_Name_kw (ld_glob I hg hm (PySem.W.callWith_KW0 (h₀ := X.base) I.ok.mod.kin hk hall ?_ hpl) hdb)⟩
  refine thn (hkw.run pos pins s σ H _ I h) fun ws s2 ⟨zs, H2, I2, rz, q2⟩ => ⟨I2.kIn, ?_⟩
  rw [hks]
  refine run_GK (us := []) F hr (fun hl => ?_) (hx σ) I2 .nil rz q2
  obtain ⟨k, ek⟩ := hps
  obtain ⟨h1, h2⟩ := gP_shape (hl.trans ek)
  exact .of_eq (hb kV doc pm an cdv ct [] ws h1 h2)
end
section
variable {L : Lg} {σ : SS} {Q : VK} {t tk : TA} {sp : Sp} {E : SS → XK} {m n : Nat} {is : List Nat}
theorem t_callGK (k : Tr L fun H => t σ H fun vs H1 => tk σ H1 fun zs H2 => sp (gP m n is vs zs) H2 Q (E σ)) : Tr L fun H => tCallGK sp m n is E t tk σ H Q := k
end
end Hz

/-! Hz, part O: lists of ints, their texts; numbers' sizes. -/
namespace Hz
open PySem PySem.Spec PyProof.Rows L2 RZ
/-! ### sizes -/
theorem bits_le {i : Int} {N : Nat} (h0 : 1 ≤ N) (h : i.natAbs < 2 ^ N) : Builtin.Int.intBits i ≤ N := by
  have := PySem.Flt.log2_lt_of h0 h
  unfold Builtin.Int.intBits
  split <;> omega
theorem natAbs_lt {i : Int} {b : Nat} (h1 : -(b : Int) < i) (h2 : i < b) : i.natAbs < b := by omega
theorem pow_ok {i j : Int} (N : Nat) (h0 : 1 ≤ N) (h1 : i.natAbs < 2 ^ N) (h2 : 0 ≤ j) (h3 : (N : Int) * j ≤ 134217728) : cPow i j := by
  refine ⟨h2, ?_⟩
  have h := bits_le h0 h1
  have h4 : (Builtin.Int.intBits i : Int) * j ≤ (N : Int) * j := Int.mul_le_mul_of_nonneg_right (by omega) h2
  have e : (2 : Int) ^ 27 = 134217728 := by decide
  rw [e]; omega
theorem mul_ok {i j : Int} (M N : Nat) (h0 : 1 ≤ M) (h1 : 1 ≤ N) (hi : i.natAbs < 2 ^ M) (hj : j.natAbs < 2 ^ N) (h : M + N ≤ 1000000) : cMul i j := .inr (.inr (wide_mul hi hj h0 h1 h))
theorem div_ok {i j : Int} (N : Nat) (h0 : 1 ≤ N) (h1 : 0 < j) (h2 : j.natAbs < 2 ^ N) (h : N ≤ 9000) : CDivW i j := wide_div h1 h2 h0 h
/-! ### lists of ints by place -/
theorem at_mem {ns : List Int} {i : Int} (h0 : 0 ≤ i) (h1 : i < ns.length) : ∃ n, atI (ns.map V.int) i = some (.int n) ∧ n ∈ ns ∧ ns[i.toNat]? = some n := by
  obtain ⟨j, rfl⟩ : ∃ j : Nat, i = (j : Int) := ⟨i.toNat, by omega⟩
  have hl : j < ns.length := by omega
  refine ⟨ns[j], atI_nat ?_, List.getElem_mem hl, by rw [Int.toNat_natCast, List.getElem?_eq_getElem hl]⟩
  rw [List.getElem?_map, List.getElem?_eq_getElem hl]; rfl
theorem at_int {ns : List Int} {i : Nat} {n : Int} (h : ns[i]? = some n) : atI (ns.map V.int) (i : Int) = some (.int n) := atI_nat (get_mapI h)
where get_mapI {ns : List Int} {i : Nat} {n : Int} (h : ns[i]? = some n) : (ns.map V.int)[i]? = some (.int n) := by rw [List.getElem?_map, h]; rfl
theorem at_lastI (ns : List Int) (n : Int) : atI ((ns ++ [n]).map V.int) (-1) = some (.int n) := by
  rw [List.map_append]; exact atI_last _ _
/-! ### chains -/
def chainI : Int → List Int → Prop
  | _, [] => True
  | b, d :: r => 0 ≤ d ∧ d ≤ b + 1 ∧ chainI d r
def lastD (b : Int) : List Int → Int
  | [] => b
  | d :: r => lastD d r
theorem chainI_append : ∀ (b : Int) (xs ys : List Int), chainI b (xs ++ ys) ↔ chainI b xs ∧ chainI (lastD b xs) ys
  | b, [], ys => by simp [chainI, lastD]
  | b, d :: r, ys => by
    show (0 ≤ d ∧ d ≤ b + 1 ∧ chainI d (r ++ ys)) ↔ (0 ≤ d ∧ d ≤ b + 1 ∧ chainI d r) ∧ chainI (lastD d r) ys
    rw [chainI_append d r ys]
    constructor
    · rintro ⟨h1, h2, h3, h4⟩; exact ⟨⟨h1, h2, h3⟩, h4⟩
    · rintro ⟨⟨h1, h2, h3⟩, h4⟩; exact ⟨h1, h2, h3, h4⟩
theorem lastD_append : ∀ (b : Int) (xs : List Int) (d : Int), lastD b (xs ++ [d]) = d
  | _, [], _ => rfl
  | _, e :: r, d => lastD_append e r d
theorem chainI_bounds : ∀ (b : Int) (xs : List Int), chainI b xs → ∀ (i : Nat) (d : Int), xs[i]? = some d → 0 ≤ d ∧ d ≤ b + 1 + i
  | b, e :: r, h, 0, d, q => by
    cases q
    exact ⟨h.1, by have := h.2.1; omega⟩
  | b, e :: r, h, i + 1, d, q => by
    have := chainI_bounds e r h.2.2 i d (by simpa using q)
    have := h.2.1
    omega
theorem chainI_take : ∀ (b : Int) (xs : List Int) (n : Nat), chainI b xs → chainI b (xs.take n)
  | _, [], n, _ => by rw [List.take_nil]; trivial
  | _, _ :: _, 0, _ => trivial
  | _, d :: r, n + 1, h => ⟨h.1, h.2.1, chainI_take d r n h.2.2⟩
/-! ### the text of a list of ints -/
def reprI (ns : List Int) : Str := (PyData.list (ns.map PyData.int)).shown
theorem shownAll_map (ns : List Int) : PyData.shownAll (ns.map PyData.int) = ns.map fun n => (toString n : Str) := by
  induction ns with
  | nil => simp only [List.map_nil, PyData.shownAll]
  | cons n r ih => simp only [List.map_cons, PyData.shownAll, PyData.shown, ih]
theorem showableAll_map {ns : List Int} (h : ∀ n ∈ ns, n.natAbs < 2 ^ 1000) : PyData.showableAll (ns.map PyData.int) = true := by
  induction ns with
  | nil => simp only [List.map_nil, PyData.showableAll]
  | cons n r ih =>
    have := PySem.Flt.log2_lt_of (by decide : 0 < 1000) (h n (.head _))
    simp only [List.map_cons, PyData.showableAll, PyData.showable, ih fun m hm => h m (.tail _ hm), Bool.and_true, decide_eq_true_eq]
    omega
theorem int_len {n : Int} (h : n.natAbs < 2 ^ 1000) : ((toString n : Str)).length ≤ 1001 := by
  rw [PySem.ofString_length]
  exact int_text_length_le (by decide) (PySem.Flt.log2_lt_of (by decide : 0 < 1000) h)
theorem sum_le_len : ∀ (l : List Nat) (k : Nat), (∀ x ∈ l, x ≤ k) → l.sum ≤ l.length * k
  | [], _, _ => by simp
  | x :: r, k, h => by
    have h1 := sum_le_len r k fun y hy => h y (.tail _ hy)
    have h2 := h x (.head _)
    rw [List.sum_cons, List.length_cons, Nat.add_mul]
    omega
theorem reprI_len {ns : List Int} (h : ∀ n ∈ ns, n.natAbs < 2 ^ 1000) (hl : ns.length ≤ 16000) : (reprI ns).length ≤ sizeLine := by
  have h1 := listText_len_le (PyData.shownAll (ns.map PyData.int))
  have h2 : ((PyData.shownAll (ns.map PyData.int)).map (·.length)).sum ≤ ns.length * 1001 := by
    rw [shownAll_map, List.map_map]
    have := sum_le_len (ns.map ((fun x : Str => x.length) ∘ fun n : Int => (toString n : Str))) 1001 (fun x hx => by
      obtain ⟨n, hn, rfl⟩ := List.mem_map.mp hx
      exact int_len (h n hn))
    rwa [List.length_map] at this
  have h3 : (PyData.shownAll (ns.map PyData.int)).length = ns.length := by rw [shownAll_map, List.length_map]
  unfold reprI
  rw [PyData.shown, sizeLine_eq]
  omega
theorem depthAll_ints : ∀ ns : List Int, PyData.depthAll (ns.map PyData.int) = 0
  | [] => by simp only [List.map_nil, PyData.depthAll]
  | n :: r => by simp only [List.map_cons, PyData.depthAll, PyData.depth, depthAll_ints r, Nat.max_self]
theorem t_reprI {K : PySem.W.Frag} {L : Lg} {Q : VK} {a : Addr} {ns : List Int} (hm : (a, .lst (ns.map V.int)) ∈ L) (h : ∀ n ∈ ns, n.natAbs < 2 ^ 1000) (hl : ns.length ≤ 16000)
    (k : Tr L fun H => Q (.str (reprI ns)) H) : Tr L fun H => rRepr K [.ref a] H Q :=
  t_repr (Dt.ints hm).dpl (by simp only [PyData.showable]; exact showableAll_map h) (by simp only [PyData.depth, depthAll_ints]; decide) (reprI_len h hl) k
/-- == of two lists of ints -/
theorem eqv_ints : ∀ (xs ys : List Int), PyData.eqv (.list (xs.map PyData.int)) (.list (ys.map PyData.int)) = decide (xs = ys) := by
  have all : ∀ (xs ys : List Int), PyData.eqvAll (xs.map PyData.int) (ys.map PyData.int) = decide (xs = ys) := by
    intro xs
    induction xs with
    | nil => intro ys; cases ys <;> simp [PyData.eqvAll]
    | cons x r ih =>
      intro ys
      cases ys with
      | nil => simp [PyData.eqvAll]
      | cons y s => simp only [List.map_cons, PyData.eqvAll, PyData.eqv, ih, List.cons.injEq, Bool.decide_and]; rfl
  intro xs ys
  simp only [PyData.eqv, all]
theorem shaped_ints (ns : List Int) : SeqAt.shaped (.list (ns.map PyData.int)) = true := by
  have c : ∀ ns : List Int, PyData.canLayAll0 (ns.map PyData.int) = true := by
    intro ns
    induction ns with
    | nil => simp [PyData.canLayAll0]
    | cons n r ih => simp [PyData.canLayAll0, PyData.canLay0, ih]
  unfold SeqAt.shaped
  simp [PyData.canLay0, c, PyData.depth, depthAll_ints]
theorem t_eqInts {K : PySem.W.Frag} {L : Lg} {Q : VK} {a b : Addr} {xs ys : List Int} (ha : (a, .lst (xs.map V.int)) ∈ L) (hb : (b, .lst (ys.map V.int)) ∈ L) (k : Tr L fun H => Q (.bl (decide (xs = ys))) H) : Tr L fun H => rEqD K (.ref a) (.ref b) H Q :=
  t_eqD (Dt.ints ha).dpl (Dt.ints hb).dpl (shaped_ints xs) (shaped_ints ys) (by rw [eqv_ints]; exact k)
end Hz
namespace Hz
open PySem PySem.Spec PyProof.Rows L2 RZ
theorem at_lastD {ns : List Int} (b : Int) (h : 1 ≤ ns.length) : atI (ns.map V.int) (-1) = some (.int (lastD b ns)) := by
  obtain ⟨l, x, rfl⟩ : ∃ l x, ns = l ++ [x] := ⟨ns.dropLast, ns.getLast (by intro e; subst e; simp at h), (List.dropLast_concat_getLast _).symm⟩
  rw [lastD_append]
  exact at_lastI l x
theorem lastD_bound : ∀ (b : Int) (ns : List Int), chainI b ns → 1 ≤ ns.length → 0 ≤ lastD b ns ∧ lastD b ns ≤ b + ns.length
  | b, [], _, h => by simp at h
  | b, [d], h, _ => by
    have := h.1; have := h.2.1
    show 0 ≤ d ∧ d ≤ b + ((1 : Nat) : Int)
    omega
  | b, d :: e :: r, h, _ => by
    have ih := lastD_bound d (e :: r) h.2.2 (by simp)
    have := h.2.1
    show 0 ≤ lastD d (e :: r) ∧ lastD d (e :: r) ≤ b + (((e :: r).length + 1 : Nat) : Int)
    omega
theorem map_snoc (ns : List Int) (n : Int) : ns.map V.int ++ [V.int n] = (ns ++ [n]).map V.int := by rw [List.map_append]; rfl
end Hz
namespace Hz
open PySem PySem.Spec PyProof.Rows L2 RZ
theorem depthAll_le : ∀ {ds : List PyData} {d : PyData}, d ∈ ds → d.depth ≤ PyData.depthAll ds
  | e :: r, d, h => by
    rw [PyData.depthAll]
    rcases List.mem_cons.mp h with rfl | h
    · exact Nat.le_max_left _ _
    · exact Nat.le_trans (depthAll_le h) (Nat.le_max_right _ _)
end Hz
namespace Hz
open PySem PySem.Spec PyProof.Rows L2
/-- a, a + 1, .. below b -/
def rgI (a b : Int) : List Int := (List.range (b - a).toNat).map fun i => a + (i : Nat)
theorem rgV_ints (a b : Int) : rgV a b = (rgI a b).map V.int := by unfold rgV rgI; rw [List.map_map]; rfl
theorem rgI_len (a b : Int) : (rgI a b).length = (b - a).toNat := by unfold rgI; rw [List.length_map, List.length_range]
theorem rgI_get {a b : Int} {i : Nat} (h : i < (b - a).toNat) : (rgI a b)[i]? = some (a + i) := by
  unfold rgI
  rw [List.getElem?_map, List.getElem?_range h]; rfl
theorem rep_ints (k : Nat) (n : Int) : (List.replicate k [V.int n]).flatten = (List.replicate k n).map V.int := by
  induction k with
  | zero => rfl
  | succ k ih => rw [List.replicate_succ, List.flatten_cons, ih, List.replicate_succ, List.map_cons]; rfl
end Hz
namespace Hz
open PySem PySem.Spec PyProof.Rows L2 RZ
theorem last_get {ns : List Int} (b : Int) (h : 1 ≤ ns.length) : (ns.map V.int)[(ns.map V.int).length - 1]? = some (.int (lastD b ns)) := by
  obtain ⟨l, x, rfl⟩ : ∃ l x, ns = l ++ [x] := ⟨ns.dropLast, ns.getLast (by intro e; subst e; simp at h), (List.dropLast_concat_getLast _).symm⟩
  rw [lastD_append]
  simp
/-- xs.pop() of ints -/
theorem t_popI {L R : Lg} {Q : VK} {p : Addr} {ns : List Int} (hp : Pick p (.lst (ns.map V.int)) L R) (h : 1 ≤ ns.length) (k : Tr ((p, .lst (ns.dropLast.map V.int)) :: R) fun H => Q (.int (lastD (-1) ns)) H) : Tr L fun H => rPop (.ref p) [] H Q :=
  t_popM hp (last_get (-1) h) (Tr.lcast List.map_dropLast.symm k)
/-- xs.append(n) of ints -/
theorem t_appI {L R : Lg} {Q : VK} {p : Addr} {ns : List Int} {n : Int} (hp : Pick p (.lst (ns.map V.int)) L R) (h : ns.length < sizeLine) (k : Tr ((p, .lst ((ns ++ [n]).map V.int)) :: R) fun H => Q .non H) : Tr L fun H => rAppend (.ref p) [.int n] H Q :=
  t_append hp (by rw [List.length_map]; exact h) (Tr.lcast (map_snoc ns n) k)
end Hz
namespace Hz
open PySem PySem.Spec PyProof.Rows L2 RZ
/-! ### the law's own list, read -/
/-- wherever the ledger stands, the law's list is at a -/
def Scr (K : PySem.W.Frag) (L : Lg) (a : Addr) (ns : List Int) : Prop := ∀ H, Led H L → ScrL K H a (ns.map V.int)
theorem Scr.mono {K : PySem.W.Frag} {L M : Lg} {a : Addr} {ns : List Int} (h : Scr K L a ns) (s : ∀ {H}, Led H M → Led H L) : Scr K M a ns := fun H l => h H (s l)
theorem Scr.cons {K : PySem.W.Frag} {L : Lg} {x : Addr × HO} {a : Addr} {ns : List Int} (h : Scr K L a ns) : Scr K (x :: L) a ns := h.mono Led.tail
theorem scr_start {K : PySem.W.Frag} {H : Hp} {a : Addr} {ns : List Int} (h : ScrL K H a (ns.map V.int)) : ∃ L, Led H L ∧ Scr K L a ns := by
  obtain ⟨its, r, z, h | h⟩ := h
  · refine ⟨[(a, .frz { cls := .type "list", data := .seq its.toArray } (.lst (ns.map V.int)))], ⟨fun p hp => ?_, by simp⟩, fun H l => ⟨its, r, z, .inl (l.has _ (.head _))⟩⟩
    rw [List.mem_singleton.mp hp]
    exact h
  · exact ⟨[], .nil, fun H _ => ⟨its, r, z, .inr h⟩⟩
section
variable {L R : Lg} {Q : VK} {K : PySem.W.Frag} {a b : Addr} {ns : List Int} {ys : List V}
theorem t_lenSc (h : Scr K L a ns) (k : Tr L fun H => Q (.int ns.length) H) : Tr L fun H => rLen K [.ref a] H Q := fun H l => ⟨_, _, rfl, .inl ⟨_, (h H l).sq, by rw [List.length_map]⟩, k H l⟩
theorem t_catSc (h : Scr K L a ns) (hp : Pick b (.lst ys) L R) (hz : ns.length + ys.length ≤ sizeLine) (k : ∀ p, Tr ((p, .lst (ns.map V.int ++ ys)) :: L) fun H => Q (.ref p) H) : Tr L fun H => rCatS K (.ref a) (.ref b) H Q :=
  fun H l => ⟨a, b, _, ys, rfl, rfl, h H l, l.get hp, by rw [List.length_map]; exact hz, fun p hp' => k p _ (l.new hp')⟩
theorem t_slSc {lo hi : Option Int} (h : Scr K L a ns) (k : ∀ p, Tr ((p, .lst (cutV (ns.map V.int) lo hi)) :: L) fun H => Q (.ref p) H) : Tr L fun H => rSlL K (.ref a) lo hi H Q := fun H l => ⟨a, _, rfl, (h H l).sq, fun p hp' => k p _ (l.new hp')⟩
theorem t_ixSc {m : Int} {v : V} (h : Scr K L a ns) (ha : atI (ns.map V.int) m = some v) (k : Tr L fun H => Q v H) : Tr L fun H => rIxL K (.ref a) (.int m) H Q := fun H l => ⟨a, _, m, v, rfl, rfl, (h H l).sq, ha, k H l⟩
theorem dpl_sc (h : Scr K L a ns) : DpL K L (.ref a) (.list (ns.map PyData.int)) := fun H l => .lst (h H l).sq (dpAll_ints ns)
/-- script == [] -/
theorem t_eqSc {zs : List Int} (h : Scr K L a ns) (hb : (b, .lst (zs.map V.int)) ∈ L) (k : Tr L fun H => Q (.bl (decide (ns = zs))) H) : Tr L fun H => rEqD K (.ref a) (.ref b) H Q :=
  t_eqD (dpl_sc h) (Dt.ints hb).dpl (shaped_ints ns) (shaped_ints zs) (by rw [eqv_ints]; exact k)
theorem t_neSc {zs : List Int} (h : Scr K L a ns) (hb : (b, .lst (zs.map V.int)) ∈ L) (k : Tr L fun H => Q (.bl (!decide (ns = zs))) H) : Tr L fun H => rNeD K (.ref a) (.ref b) H Q :=
  t_neD (dpl_sc h) (Dt.ints hb).dpl (shaped_ints ns) (shaped_ints zs) (by rw [eqv_ints]; exact k)
end
/-- a slice of ints -/
def cutI (ns : List Int) (lo hi : Option Int) : List Int := (ns.drop (HT.sIx ns.length 0 lo)).take (HT.sIx ns.length ns.length hi - HT.sIx ns.length 0 lo)
theorem cut_ints (ns : List Int) (lo hi : Option Int) : cutV (ns.map V.int) lo hi = (cutI ns lo hi).map V.int := by
  unfold cutV cutI
  rw [List.length_map, List.map_take, List.map_drop]
theorem cutI_len (ns : List Int) (lo hi : Option Int) : (cutI ns lo hi).length ≤ ns.length := by
  unfold cutI
  rw [List.length_take, List.length_drop]; omega
theorem cutI_mem {ns : List Int} {lo hi : Option Int} {n : Int} (h : n ∈ cutI ns lo hi) : n ∈ ns := List.mem_of_mem_drop (List.mem_of_mem_take h)
end Hz

/-! Hz, part F: ints by place; filtered comprehensions; members; a list's places. -/
namespace Hz
open PySem PySem.Spec PyProof.Rows L2 RZ
/-! ### ints by place -/
/-- the i-th of ns -/
def atD (ns : List Int) (i : Int) : Int := ns.getD i.toNat 0
theorem atD_get {ns : List Int} {i : Int} (h0 : 0 ≤ i) (h1 : i < ns.length) : ns[i.toNat]? = some (atD ns i) := by
  unfold atD
  rw [List.getD_eq_getElem?_getD, List.getElem?_eq_getElem (by omega : i.toNat < ns.length)]; rfl
theorem atD_nat {ns : List Int} {i : Nat} {d : Int} (h : ns[i]? = some d) : atD ns (i : Int) = d := by
  unfold atD
  rw [Int.toNat_natCast, List.getD_eq_getElem?_getD, h]; rfl
theorem atD_at {ns : List Int} {i : Int} (h0 : 0 ≤ i) (h1 : i < ns.length) : atI (ns.map V.int) i = some (.int (atD ns i)) := by
  have h := atI_nat (α := V) (xs := ns.map V.int) (j := i.toNat) (v := .int (atD ns i)) (by rw [List.getElem?_map, atD_get h0 h1]; rfl)
  rwa [Int.toNat_of_nonneg h0] at h
theorem map_erase {α β : Type} {f : α → β} : ∀ (ns : List α) (k : Nat), (ns.eraseIdx k).map f = (ns.map f).eraseIdx k
  | [], _ => rfl
  | _ :: _, 0 => rfl
  | n :: r, k + 1 => by
    show f n :: (r.eraseIdx k).map f = f n :: (r.map f).eraseIdx k
    rw [map_erase r k]
theorem atD_mem {ns : List Int} {i : Int} (h0 : 0 ≤ i) (h1 : i < ns.length) : atD ns i ∈ ns := List.mem_of_getElem? (atD_get h0 h1)
section
variable {L R R' : Lg} {σ σ0 : SS} {Q : VK} {K : PySem.W.Frag} {a b p : Addr} {ns ms : List Int} {m n : Int}
theorem t_ixI (hp : Pick p (.lst (ns.map V.int)) L R) (h0 : 0 ≤ m) (h1 : m < ns.length) (k : Tr L fun H => Q (.int (atD ns m)) H) : Tr L fun H => rIxL K (.ref p) (.int m) H Q := t_ixL hp (atD_at h0 h1) k
theorem t_lenI (hp : Pick p (.lst (ns.map V.int)) L R) (k : Tr L fun H => Q (.int ns.length) H) : Tr L fun H => rLen K [.ref p] H Q := t_lenL hp (by rw [List.length_map]; exact k)
theorem t_slI {lo hi : Option Int} (hp : Pick a (.lst (ns.map V.int)) L R) (k : ∀ p, Tr ((p, .lst ((cutI ns lo hi).map V.int)) :: L) fun H => Q (.ref p) H) : Tr L fun H => rSlL K (.ref a) lo hi H Q := t_slL hp fun p => Tr.lcast (cut_ints ns lo hi) (k p)
theorem t_catI (hp : Pick a (.lst (ns.map V.int)) L R) (hq : Pick b (.lst (ms.map V.int)) L R') (hz : ns.length + ms.length ≤ sizeLine) (k : ∀ p, Tr ((p, .lst ((ns ++ ms).map V.int)) :: L) fun H => Q (.ref p) H) : Tr L fun H => rCat (.ref a) (.ref b) H Q :=
  t_cat hp hq (by rw [List.length_map, List.length_map]; exact hz) fun p => Tr.lcast List.map_append.symm (k p)
theorem t_revI (hp : Pick a (.lst (ns.map V.int)) L R) (k : ∀ p, Tr ((p, .lst (ns.reverse.map V.int)) :: L) fun H => Q (.ref p) H) : Tr L fun H => newRev K (.ref a) H Q := t_newRev hp fun p => Tr.lcast List.map_reverse.symm (k p)
theorem t_rgI {m n : Int} (h : RgOk m n) (k : ∀ p, Tr ((p, .lst ((rgI m n).map V.int)) :: L) fun H => Q (.ref p) H) : Tr L fun H => newRg m n H Q := t_newRg h fun p => Tr.lcast (rgV_ints m n) (k p)
theorem t_listI (hp : Pick a (.lst (ns.map V.int)) L R) (k : ∀ p, Tr ((p, .lst (ns.map V.int)) :: L) fun H => Q (.ref p) H) : Tr L fun H => rList K [.ref a] H Q := t_listL hp k
/-- a new list of ints, item by item -/
theorem t_newI (ns : List Int) (hz : ns.length ≤ sizeLine) (k : ∀ p, Tr ((p, .lst (ns.map V.int)) :: L) fun H => Q (.ref p) H) : Tr L fun H => newL (ns.map V.int) H Q := t_newL (by rw [List.length_map]; exact hz) k
theorem t_setI {i : Int} {v : Int} {G : Hp → Prop} (hp : Pick p (.lst (ns.map V.int)) L R) (h0 : 0 ≤ i) (h1 : i < ns.length) (k : Tr ((p, .lst ((ns.set i.toNat v).map V.int)) :: R) G) : Tr L fun H => rSetL (.ref p) (.int i) (.int v) H G :=
  t_setL (j := i.toNat) hp (by unfold ixN; rw [List.length_map]; first | rfl | (split <;> simp_all <;> omega)) (Tr.lcast List.map_set.symm k)
/-- n in xs, ints -/
theorem inV_ints (n : Int) : ∀ ns : List Int, inV (.int n) (ns.map V.int) = decide (n ∈ ns)
  | [] => rfl
  | m :: r => by
    have ih := inV_ints n r
    unfold inV at ih ⊢
    rw [List.map_cons, List.any_cons, ih]
    have e : eqV (.int m) (.int n) = decide (n = m) := by
      unfold eqV
      rw [Bool.eq_iff_iff, decide_eq_true_eq, beq_iff_eq]; exact eq_comm
    rw [e, ← Bool.decide_or]
    congr 1
    simp
theorem flat_ints (ns : List Int) : (ns.map V.int).all flatV = true := by
  induction ns with
  | nil => rfl
  | cons n r ih => rw [List.map_cons, List.all_cons, ih]; rfl
theorem t_inI (hp : Pick p (.lst (ns.map V.int)) L R) (k : Tr L fun H => Q (.bl (decide (n ∈ ns))) H) : Tr L fun H => rIn K false (.int n) (.ref p) H Q :=
  fun H l => ⟨p, _, rfl, .inl (sqL hp l), rfl, flat_ints ns, by rw [inV_ints]; exact k H l⟩
theorem t_notInI (hp : Pick p (.lst (ns.map V.int)) L R) (k : Tr L fun H => Q (.bl (!decide (n ∈ ns))) H) : Tr L fun H => rIn K true (.int n) (.ref p) H Q :=
  fun H l => ⟨p, _, rfl, .inl (sqL hp l), rfl, flat_ints ns, by rw [inV_ints]; exact k H l⟩
theorem t_neInts {xs ys : List Int} (ha : (a, .lst (xs.map V.int)) ∈ L) (hb : (b, .lst (ys.map V.int)) ∈ L) (k : Tr L fun H => Q (.bl (!decide (xs = ys))) H) : Tr L fun H => rNeD K (.ref a) (.ref b) H Q :=
  t_neD (Dt.ints ha).dpl (Dt.ints hb).dpl (shaped_ints xs) (shaped_ints ys) (by rw [eqv_ints]; exact k)
/-- tuples of ints -/
theorem eqv_intsT (xs ys : List Int) : PyData.eqv (.tuple (xs.map PyData.int)) (.tuple (ys.map PyData.int)) = decide (xs = ys) := by
  have h := eqv_ints xs ys
  simp only [PyData.eqv] at h ⊢
  exact h
theorem shaped_intsT (ns : List Int) : SeqAt.shaped (.tuple (ns.map PyData.int)) = true := by
  have c : ∀ ns : List Int, PyData.canLayAll0 (ns.map PyData.int) = true := by
    intro ns
    induction ns with
    | nil => simp [PyData.canLayAll0]
    | cons n r ih => simp [PyData.canLayAll0, PyData.canLay0, ih]
  unfold SeqAt.shaped
  simp [PyData.canLay0, c, PyData.depth, depthAll_ints]
theorem t_eqIntsT {xs ys : List Int} (ha : (a, .tup (xs.map V.int)) ∈ L) (hb : (b, .tup (ys.map V.int)) ∈ L) (k : Tr L fun H => Q (.bl (decide (xs = ys))) H) : Tr L fun H => rEqD K (.ref a) (.ref b) H Q :=
  t_eqD (Dt.intsT ha).dpl (Dt.intsT hb).dpl (shaped_intsT xs) (shaped_intsT ys) (by rw [eqv_intsT]; exact k)
theorem t_neIntsT {xs ys : List Int} (ha : (a, .tup (xs.map V.int)) ∈ L) (hb : (b, .tup (ys.map V.int)) ∈ L) (k : Tr L fun H => Q (.bl (!decide (xs = ys))) H) : Tr L fun H => rNeD K (.ref a) (.ref b) H Q :=
  t_neD (Dt.intsT ha).dpl (Dt.intsT hb).dpl (shaped_intsT xs) (shaped_intsT ys) (by rw [eqv_intsT]; exact k)
/-- xs.insert(i, y) -/
def rInsert : V → List V → Hp → VK → Prop := fun x vs H Q => ∃ (l : Addr) (xs : List V) (i : Int) (y : V), x = .ref l ∧ vs = [.int i, y] ∧ H l = some (.lst xs) ∧ xs.length < sizeLine ∧ 0 ≤ i ∧ i < 2 ^ 63 ∧
    Q .non (upd H l (.lst (xs.take i.toNat ++ [y] ++ xs.drop i.toNat)))
theorem mt_ins {X : Cx} : MtR X "list.insert" rInsert := mt_insert
theorem t_insI {i v : Int} (hp : Pick p (.lst (ns.map V.int)) L R) (hz : ns.length < sizeLine) (h0 : 0 ≤ i) (h1 : i < 2 ^ 63) (k : Tr ((p, .lst ((ns.take i.toNat ++ [v] ++ ns.drop i.toNat).map V.int)) :: R) fun H => Q .non H) : Tr L fun H => rInsert (.ref p) [.int i, .int v] H Q :=
  fun H l => ⟨p, _, i, _, rfl, rfl, l.get hp, by rw [List.length_map]; exact hz, h0, h1, by
    have := k _ (l.pick hp).put
    rw [List.map_append, List.map_append, List.map_take, List.map_drop] at this
    exact this⟩
theorem t_popAtI {i : Int} (hp : Pick p (.lst (ns.map V.int)) L R) (h0 : 0 ≤ i) (h1 : i < ns.length) (h2 : ns.length ≤ sizeLine) (k : Tr ((p, .lst ((ns.eraseIdx i.toNat).map V.int)) :: R) fun H => Q (.int (atD ns i)) H) : Tr L fun H => rPopAt (.ref p) [.int i] H Q :=
  fun H l => ⟨p, _, i, i.toNat, .int (atD ns i), rfl, rfl, l.get hp, by omega, by rw [sizeLine_eq] at h2; omega, by
    unfold seqIndex?
    rw [List.length_map]
    simp only [show ¬ i < 0 by omega, if_false]
    rw [if_pos (by simp; omega)], by rw [List.getElem?_map, atD_get h0 h1]; rfl, by
    have := k _ (l.pick hp).put
    rwa [map_erase] at this⟩
end
section
variable {L : Lg} {G1 G2 : Hp → Prop} {c : Prop} [Decidable c]
theorem t_ifDT (h : c) (k : Tr L G1) : Tr L fun H => if decide c = true then G1 H else G2 H := t_ifT (decide_eq_true h) k
theorem t_ifDF (h : ¬ c) (k : Tr L G2) : Tr L fun H => if decide c = true then G1 H else G2 H := t_ifF (decide_eq_false h) k
theorem t_ifNT (h : ¬ c) (k : Tr L G1) : Tr L fun H => if (!decide c) = true then G1 H else G2 H := t_ifT (by rw [decide_eq_false h]; rfl) k
theorem t_ifNF (h : c) (k : Tr L G2) : Tr L fun H => if (!decide c) = true then G1 H else G2 H := t_ifF (by rw [decide_eq_true h]; rfl) k
theorem t_ifR {α : Type} [DecidableEq α] {x : α} (k : Tr L G1) : Tr L fun H => if decide (x = x) = true then G1 H else G2 H := t_ifDT rfl k
theorem t_ifNR {α : Type} [DecidableEq α] {x : α} (k : Tr L G2) : Tr L fun H => if (!decide (x = x)) = true then G1 H else G2 H := t_ifNF rfl k
end
theorem cutI_from {ns : List Int} {i : Int} (h0 : 0 ≤ i) (h1 : i ≤ ns.length) : cutI ns (some i) none = ns.drop i.toNat := by
  unfold cutI
  have e : HT.sIx ns.length 0 (some i) = i.toNat := by
    show (if i < 0 then _ else min i.toNat ns.length) = i.toNat
    rw [if_neg (by omega)]; omega
  rw [e]
  show (ns.drop i.toNat).take (ns.length - i.toNat) = ns.drop i.toNat
  exact List.take_of_length_le (by rw [List.length_drop]; omega)
theorem cutI_to {ns : List Int} {i : Int} (h0 : 0 ≤ i) (h1 : i ≤ ns.length) : cutI ns none (some i) = ns.take i.toNat := by
  unfold cutI
  have e : HT.sIx ns.length ns.length (some i) = i.toNat := by
    show (if i < 0 then _ else min i.toNat ns.length) = i.toNat
    rw [if_neg (by omega)]; omega
  rw [e]
  show ((ns.drop 0).take (i.toNat - 0)) = ns.take i.toNat
  rw [List.drop_zero, Nat.sub_zero]
/-! ### filtered comprehensions -/
/-- of the first i turns those that b keeps, told by o -/
def fl {α : Type} (b : Nat → Bool) (o : Nat → α) (i : Nat) : List α := ((List.range i).filter b).map o
theorem fl_succ {α : Type} (b : Nat → Bool) (o : Nat → α) (i : Nat) : fl b o (i + 1) = if b i = true then fl b o i ++ [o i] else fl b o i := by
  unfold fl
  rw [List.range_succ, List.filter_append, List.map_append]
  cases h : b i <;> simp [h]
theorem fl_len {α : Type} (b : Nat → Bool) (o : Nat → α) (i : Nat) : (fl b o i).length ≤ i := by
  unfold fl
  rw [List.length_map]
  exact Nat.le_trans (List.length_filter_le _ _) (by rw [List.length_range]; exact Nat.le_refl _)
section
variable {L : Lg} {σ σ0 : SS} {g : TG} {tt : TT} {te : TE} {vs : List Nat} {Q : VK} {b : Nat → Bool} {o : Nat → V} {D : Addr} {i : Nat} {M R2 : Lg}
def lcFl (L : Lg) (b : Nat → Bool) (o : Nat → V) (D : Addr) (i : Nat) : Hp → Prop := lcNx (fun _ (_ : Unit) => L) (fun i _ => fl b o i) (fun _ _ => True) D i
theorem t_lcFlA {v : V} {n : Nat} (hn : i < n) (hz : n ≤ sizeLine) (hb : b i = true) (hv : v = o i) (hp : Pick D (.lst (fl b o i)) M R2) (hM : Sub R2 L) : Tr M fun H => lcAdd D (lcFl L b o D (i + 1)) v H := by
  refine t_lcAdd () trivial hp ?_ (by rw [fl_succ, if_pos hb, hv]) hM
  have := fl_len b o i
  omega
theorem t_lcFlS (hb : b i = false) (hp : Pick D (.lst (fl b o i)) M R2) (hM : Sub R2 L) : Tr M fun H => lcFl L b o D (i + 1) H := by
  refine t_lcSkip () trivial ?_
  have e : fl b o (i + 1) = fl b o i := by rw [fl_succ, if_neg (by rw [hb]; decide)]
  show Sub M ((D, .lst (fl b o (i + 1))) :: L)
  rw [e]
  exact .take hp hM
theorem t_lcFil {J : It} {n : Nat} {val : Nat → V → Lg → Prop} {Src : Lg → Prop} (wk : Wk J n val Src) (hw : wipe σ vs = σ0) (b : Nat → Bool) (o : Nat → V) (hsrc : ∀ x, Src (x :: L))
    (hs : ∀ D i v L', i < n → val i v L' → Tr (L' ++ (D, .lst (fl b o i)) :: L) fun H => g v σ0 H fun σ2 H2 => wipe σ2 vs = σ0 ∧ tt σ2 H2 fun c H3 => if c = true then te σ2 H3 (lcAdd D (lcFl L b o D (i + 1))) else lcFl L b o D (i + 1) H3)
    (hd : ∀ D, Tr ((D, .lst (fl b o n)) :: L) fun H => Q (.ref D) H) : Tr L fun H => lcK g tt te vs σ Q J H :=
  t_lcK wk hw (fun _ (_ : Unit) => L) (fun i _ => fl b o i) (fun _ _ => True) ⟨(), trivial, rfl, .refl⟩ (fun D i y _ => hsrc _) (fun D i y v L' hi _ hv => hs D i v L' hi hv) fun D y _ => hd D
theorem fl_ints (b : Nat → Bool) (o : Nat → Int) (i : Nat) : fl b (fun k => V.int (o k)) i = (fl b o i).map V.int := by unfold fl; rw [List.map_map]; rfl
end
end Hz
namespace Hz
open PySem PySem.Spec PyProof.Rows L2 RZ
/-! ### while, the test may change the heap -/
section
variable {L : Lg} {σ : SS} {D : Ends} {tc : TT} {tb : TS}
variable {α : Type} {S : α → SS} {M : α → Lg} {I : α → Prop} {μ : α → Nat} {n : Nat}
/-- behind the test of a while -/
def whB (tb : TS) (D : Ends) (S : α → SS) (M : α → Lg) (I : α → Prop) (μ : α → Nat) (n : Nat) (σ : SS) (b : Bool) (H : Hp) : Prop :=
  if b = true then ∃ N : SS → Hp → Prop, (∀ σ' H', N σ' H' → ∃ m', m' < n ∧ ∃ y, m' = μ y ∧ I y ∧ σ' = S y ∧ Led H' (M y)) ∧ tb { D with nx := N, ct := N, bk := D.nx } σ H else D.nx σ H
theorem t_whBT (k : Tr L fun H => tb { D with nx := Wst S M I μ n, ct := Wst S M I μ n, bk := D.nx } σ H) : Tr L fun H => whB tb D S M I μ n σ true H := fun H l => by
  refine iteT ?_
  exact ⟨_, fun σ3 H3 ⟨z, iz, lt, e, lz⟩ => ⟨μ z, lt, z, rfl, iz, e, lz⟩, k H l⟩
theorem t_whBF (k : Tr L fun H => D.nx σ H) : Tr L fun H => whB tb D S M I μ n σ false H := fun H l => by
  exact iteF (k H l)
theorem t_whB {c : Prop} [Decidable c] (h1 : c → Tr L fun H => tb { D with nx := Wst S M I μ n, ct := Wst S M I μ n, bk := D.nx } σ H) (h2 : ¬ c → Tr L fun H => D.nx σ H) : Tr L fun H => whB tb D S M I μ n σ (decide c) H := by
  by_cases h : c
  · rw [decide_eq_true h]; exact t_whBT (h1 h)
  · rw [decide_eq_false h]; exact t_whBF (h2 h)
theorem t_whG (S : α → SS) (M : α → Lg) (I : α → Prop) (μ : α → Nat) (h0 : ∃ y, I y ∧ σ = S y ∧ Sub L (M y)) (hs : ∀ y, I y → Tr (M y) fun H => tc (S y) H (whB tb D S M I μ (μ y) (S y))) : Tr L fun H => tWhile tc tb D σ H := by
  intro H l
  obtain ⟨y0, i0, e0, s0⟩ := h0
  refine ⟨fun m σ' H' => ∃ y, m = μ y ∧ I y ∧ σ' = S y ∧ Led H' (M y), ⟨μ y0, y0, rfl, i0, e0, l.sub s0⟩, ?_⟩
  rintro m σ' H' ⟨y, rfl, iy, rfl, ly⟩
  exact hs y iy H' ly
end
end Hz
namespace Hz
open PySem PySem.Spec PyProof.Rows L2 RZ
/-- two ways come together: a new list of ints at p, o otherwise known -/
theorem t_joinO {L : Lg} {G : Hp → Prop} {T : Addr → Hp → Prop} (X : List Int → Addr → HO → Lg) (J : List Int → HO → Prop) (k : (∀ ds p o M, J ds o → Sub M (X ds p o) → Tr M (T p)) → Tr L G)
    (main : ∀ ds p o, J ds o → Tr (X ds p o) (T p)) : Tr L G := k fun ds p o M h s => (main ds p o h).sub s
/-- two ways come together: o otherwise known -/
theorem t_join1 {L : Lg} {G : Hp → Prop} {T : Hp → Prop} (X : HO → Lg) (J : HO → Prop) (k : (∀ o M, J o → Sub M (X o) → Tr M T) → Tr L G) (main : ∀ o, J o → Tr (X o) T) : Tr L G := k fun o M h s => (main o h).sub s
/-- two ways come together -/
theorem t_join0 {L : Lg} {G : Hp → Prop} {T : Hp → Prop} (X : Lg) (k : (∀ M, Sub M X → Tr M T) → Tr L G) (main : Tr X T) : Tr L G := k fun M s => main.sub s
/-- two ways come together: an int -/
theorem t_joinI {L : Lg} {G : Hp → Prop} {T : Int → Hp → Prop} (X : HO → Lg) (J : Int → HO → Prop) (k : (∀ i o M, J i o → Sub M (X o) → Tr M (T i)) → Tr L G) (main : ∀ i o, J i o → Tr (X o) (T i)) : Tr L G := k fun i o M h s => (main i o h).sub s
end Hz
namespace Hz
open PySem PySem.Spec PyProof.Rows L2 RZ
section
variable {L R : Lg} {σ : SS} {Q : VK} {K : PySem.W.Frag} {a : Addr} {ns : List Int} {xs : List V}
theorem t_sortI (hp : Pick a (.lst (ns.map V.int)) L R) (k : ∀ (ns' : List Int) p, ns'.Perm ns → ns'.Pairwise (· ≤ ·) → Tr ((p, .lst (ns'.map V.int)) :: L) fun H => Q (.ref p) H) : Tr L fun H => rSortedI K [.ref a] H Q :=
  fun H l => ⟨a, ns, rfl, sqL hp l, fun ns' p h1 h2 hp' => k ns' p h1 h2 _ (l.new hp')⟩
theorem first_idx {ns : List Int} {y : Int} (h : y ∈ ns) : ∃ j : Nat, ns[j]? = some y ∧ ∀ m : Nat, m < j → ns[m]? ≠ some y := by
  induction ns with
  | nil => cases h
  | cons n r ih =>
    by_cases e : n = y
    · exact ⟨0, by rw [e]; rfl, fun m hm => by omega⟩
    · obtain ⟨j, h1, h2⟩ := ih (by
        rcases List.mem_cons.mp h with h | h
        · exact absurd h.symm e
        · exact h)
      refine ⟨j + 1, by simpa using h1, fun m hm => ?_⟩
      cases m with
      | zero => simpa using e
      | succ m => simpa using h2 m (by omega)
theorem t_indexI {y : Int} (hp : Pick a (.lst (ns.map V.int)) L R) (h : y ∈ ns) (k : ∀ j : Nat, ns[j]? = some y → Tr L fun H => Q (.int (j : Nat)) H) : Tr L fun H => rIndex K (.ref a) [.int y] H Q := by
  obtain ⟨j, h1, h2⟩ := first_idx h
  refine fun H l => ⟨a, ns.map V.int, .int y, j, .int y, rfl, rfl, sqL hp l, rfl, flat_ints ns, by rw [List.getElem?_map, h1]; rfl, (show (y == y) = true from beq_self_eq_true y), fun m z' hm hz => ?_, k j h1 H l⟩
  rw [List.getElem?_map] at hz
  cases e : ns[m]? with
  | none => rw [e] at hz; cases hz
  | some w =>
    rw [e] at hz
    cases hz
    show (w == y) = false
    have := h2 m hm
    rw [e] at this
    simpa using this
theorem t_lstG {n : Nat} {gs : TGs} {Qn : SS → Hp → Prop} (hp : Pick a (.lst xs) L R) (hn : xs.length = n) (k : Tr L fun H => gs xs σ H Qn) : Tr L fun H => gLst K n gs (.ref a) σ H Qn := fun H l => ⟨a, xs, rfl, sqL hp l, hn, k H l⟩
theorem fl_none {α : Type} (o : Nat → α) (n : Nat) : fl (fun _ => false) o n = [] := by unfold fl; rw [List.filter_eq_nil_iff.mpr (fun _ _ => by decide)]; rfl
theorem fl_all {α : Type} (o : Nat → α) (n : Nat) : fl (fun _ => true) o n = (List.range n).map o := by unfold fl; rw [List.filter_eq_self.mpr (fun _ _ => rfl)]
end
end Hz
namespace Hz
open PySem PySem.Spec PyProof.Rows L2 RZ
/-- two ways come together: an int, the heap as it was -/
theorem t_joinE {L : Lg} {G : Hp → Prop} {T : Int → Hp → Prop} (X : Lg) (J : Int → Prop) (k : (∀ i M, J i → Sub M X → Tr M (T i)) → Tr L G) (main : ∀ i, J i → Tr X (T i)) : Tr L G := k fun i M h s => (main i h).sub s
theorem rg_at {a b d : Int} (h0 : 0 ≤ d) (h1 : d < b - a) : atD (rgI a b) d = a + d := by
  have := atD_nat (rgI_get (a := a) (b := b) (i := d.toNat) (by omega))
  rwa [Int.toNat_of_nonneg h0] at this
end Hz
namespace Hz
open PySem PySem.Spec PyProof.Rows L2 RZ
/-- two ways come together ahead of a loop over range(e) -/
theorem t_joinR {L : Lg} {G : Hp → Prop} {g : TG} {tb : TS} {D : Ends} {σ : SS} (X : Lg) (J : Int → Prop) (k : (∀ i M, J i → Sub M X → Tr M (forK g tb D σ (Itr 0 i.toNat))) → Tr L G) (main : ∀ i, J i → Tr X (forK g tb D σ (Itr 0 i.toNat))) : Tr L G := k fun i M h s => (main i h).sub s
end Hz

/-! Hz, part S: a list's slice is stored, with open ends. -/
namespace Hz
open PySem PySem.Spec PyProof.Rows L2 RZ PySem.W
section
variable {prog : Program} {w : World} {A : Around} {s : Shared} {E : Value → Shared → Prop}
theorem bounds_open (n : Nat) : sliceBounds none none none n = (((0 : Nat) : Int), (n : Int), 1) := by
  simp only [sliceBounds, Option.getD_none]
  rfl
theorem bounds_from {a n : Nat} (h : a ≤ n) : sliceBounds (some (a : Int)) none none n = ((a : Int), (n : Int), 1) := by
  simp only [sliceBounds, Option.getD_none]
  have h1 : ¬ ((a : Int) < 0) := by omega
  simp only [h1, if_false, show (1 : Int) > 0 by decide, if_true]
  congr 1
  omega
/-- the store at the level of values: the bounds are told -/
theorem store_slice {l b sl : Addr} {items new : Array Value} {n n2 a c : Nat} {vl vu : Value} {lo hi : Option Int} {Q : Unit → Shared → Prop}
    (e : s.heap.get? l = some { cls := .type "list", data := .seq items n }) (e2 : s.heap.get? b = some { cls := .type "list", data := .seq new n2 }) (hne : l ≠ b)
    (hs : s.heap.IsSliceOf sl vl vu .none) (pl : IsPart vl lo) (pu : IsPart vu hi) (hb : sliceBounds lo hi none items.size = ((a : Int), (c : Int), 1)) (hac : a ≤ c) (hc : c ≤ items.size)
    (hsz : items.size + new.size ≤ sizeLine) (h : Q () { s with heap := s.heap.update l (Obj.mapSeq fun xs => xs.extract 0 a ++ new ++ xs.extract c xs.size) }) :
    wpAny (model prog w) A (setItem (.ref l) (.ref sl) (.ref b)) Q E s := by
  have tl : s.heap.IsList l items := PySem.IsL.isList e
  have tb : s.heap.IsList b new := PySem.IsL.isList e2
  obtain ⟨os, o1, o2, o3⟩ := id hs
  have ts : s.TypeIs (.ref sl) "slice" := ⟨os, o1, o2⟩
  have same : Builtin.List.listSameRef (.ref l) (.ref b) = false := by
    unfold Builtin.List.listSameRef
    exact beq_eq_false_iff_ne.mpr hne
  have big : ((fun xs : Array Value => xs.extract 0 a ++ new ++ xs.extract c xs.size) items).size ≤ sizeLine + 1 := by
    simp only [Array.size_append, Array.size_extract]
    omega
  unfold setItem
  try with_reducible refine wpAny_holding ?_
  first | refine wpAny_bind (wpAny_pure ?_) | skip
  refine wpAny_bind (wpAny_sequenceKey tl.typeIs (by decide) (wpAny_bind (wpAny_callSpecial?_slot (name := Str.ofString "__setitem__") tl.typeIs slot_list_setitem
    (wpAny_call_entry slot_list_setitem tl.typeIs entry_list_setitem ?_ (args_list_setitem _ _ _)))))
  show wpAny _ _ (Builtin.List.listSubscript? (.ref sl) >>= _) _ _ s
  refine wpAny_bind ?_
  unfold Builtin.List.listSubscript?
  refine wpAny_bind (wpAny_specialOf ts slice_no_index ?_)
  simp only [Option.isNone_none, if_true]
  refine wpAny_pure ?_
  show wpAny _ _ (typeOf (.ref sl) >>= _) _ _ s
  refine wpAny_bind (wpAny_typeOf ts ?_)
  first
    | rw [if_neg (by decide)]
    | refine PySem.W.KFB.if_not (by decide) ?_
  rw [listSliceParts_eq]
  refine wpAny_bind (wpAny_bind (wpAny_field o1 o3 (x := .none) rfl (wpAny_bind (wpAny_listPart .none ?_))))
  rw [if_neg (show ¬ ((rawPart none == rawInt 0) = true) from Bool.false_ne_true)]
  refine wpAny_bind (wpAny_field o1 o3 (x := vl) rfl (wpAny_bind (wpAny_listPart pl (wpAny_bind (wpAny_field o1 o3 (x := vu) rfl (wpAny_bind (wpAny_listPart pu (wpAny_pure ?_))))))))
  first
    | simp only [same, Bool.false_eq_true, if_false]
    | refine PySem.W.KFB.if_not same ?_
    | (dsimp only
       rw [if_neg (by rw [same]; exact Bool.false_ne_true)])
  refine wpAny_bind (m := Builtin.List.listAllItems (.ref b) "must assign iterable to extended slice") ?_
  unfold Builtin.List.listAllItems
  refine wpAny_bind (wpAny_typeOf tb.typeIs ?_)
  first
    | refine PySem.W.KFB.if_so (by decide) ?_
    | rw [if_pos (by decide)]
    | simp only [beq_self_eq_true, Bool.true_or, if_true]
  unfold Builtin.List.listItems
  refine wpAny_bind (wpAny_seqItems e2 rfl (wpAny_pure ?_))
  refine wpAny_bind (wpAny_bind (wpAny_seqItems e rfl (wpAny_pure ?_)))
  refine wpAny_bind (wpAny_of_eq ((sliceIndices_raw lo hi none items.size (by simp)).trans (congrArg (pure : Int × Int × Int → Sem (Int × Int × Int)) hb)) ?_)
  show wpAny _ _ (if ((1 : Int) == 1) = true then _ else _) _ _ s
  rw [if_pos (by decide)]
  refine wpAny_bind (wpAny_rule ?_)
  first
    | simp only [notLongL hsz, Bool.false_eq_true, if_false]
    | refine PySem.W.KFB.if_not (notLongL hsz) ?_
  first | refine wpAny_bind (wpAny_pure ?_) | skip
  show wpAny _ _ (updateSeq l (fun xs => xs.extract 0 ((a : Int)).toNat ++ new ++ xs.extract (max (a : Int) (c : Int)).toNat xs.size) >>= _) _ _ s
  rw [show (max (a : Int) (c : Int)).toNat = c by omega, Int.toNat_natCast]
  refine wpAny_bind (wpAny_updateSeq (hz := Nat.le_trans (Nat.le_add_right _ _) hsz) (_hz' := big) e rfl ?_)
  refine wpAny_bind (wpAny_letGo ?_)
  first
    | exact wpAny_bind (wpAny_pure (wpAny_pure ⟨.none, rfl, wpAny_pure h⟩))
    | exact wpAny_pure ⟨.none, rfl, wpAny_pure h⟩
end
/-- xs[lo:hi] = ys : the bounds are told -/
def rSetSl (o : V) (lo hi : Option Int) (v : V) (H : Hp) (G : Hp → Prop) : Prop := ∃ l b xs ys a c, o = .ref l ∧ v = .ref b ∧ H l = some (.lst xs) ∧ H b = some (.lst ys) ∧ l ≠ b ∧
  sliceBounds lo hi none xs.length = (((a : Nat) : Int), ((c : Nat) : Int), 1) ∧ a ≤ c ∧ c ≤ xs.length ∧ xs.length + ys.length ≤ sizeLine ∧ G (upd H l (.lst (xs.take a ++ ys ++ xs.drop c)))
def gSl (to : TE) (tl th : TO) : TG := fun v σ H Q => to σ H fun o H1 => tl σ H1 fun lo H2 => th σ H2 fun hi H3 => rSetSl o lo hi v H3 fun H4 => Q σ H4
section
variable {X : Cx}
theorem pg_slice {o : Expr} {lo hi : Option Expr} {to : TE} {tl th : TO} {pos p2 : Pos} (ho : PE X o to) (hl : PO X lo tl) (hu : PO X hi th)
    (ha : ∀ v, assign (.Subscript o (.Slice lo hi none p2) pos) X.env v = (do
      let ov ← holding [v] (eval o X.env)
      let iv ← holding [v, ov] (eval (.Slice lo hi none p2) X.env)
      standAt pos
      holding [v, ov, iv] (setItem ov iv v)
      release [iv, v, ov] []) := by intro _; rfl) : PG X (.Subscript o (.Slice lo hi none p2) pos) (gSl to tl th) := by
  refine ⟨fun pins s σ H v u Q I r h => ?_⟩
  rw [ha]
  refine wpAny_bind (wpAny_holding (thn (ho.run pins s σ H _ I h) fun ov s1 ⟨x, H1, I1, r1, q1⟩ => ?_))
  refine wpAny_bind (wpAny_holding (wpAny_Slice (thn (hl.run pins s1 σ H1 _ I1 q1) fun vl s2 ⟨l, H2, I2, pl, q2⟩ => thn (hu.run pins s2 σ H2 _ I2 q2) fun vu s3 ⟨u', H3, I3, pu, q3⟩ => ?_)))
  rw [evalPart_none]
  refine wpAny_pure ?_
  have I4 : Inv X pins σ H3 { s3 with heap := s3.heap.push { cls := .type "slice", data := .fields #[vl, vu, .none] } } := I3.kept (t' := s3.toks) fun b ob q => Heap.get?_push_of_some _ q
  obtain ⟨l', b, xs, ys, a, c, rfl, rfl, hH, hB, hne, hb, hac, hc, hz, q⟩ := q3
  cases r1
  cases r
  obtain ⟨z, its, n, rv, hlen, e⟩ := I4.lstM hH
  obtain ⟨z2, its2, n2, r2, hlen2, e2⟩ := I4.lstM hB
  refine wpAny_bind (wpAny_standAt (wpAny_bind (wpAny_holding ?_)))
  have sz : its.toArray.size = xs.length := by rw [List.size_toArray]; omega
  refine store_slice (a := a) (c := c) e e2 hne (Heap.IsSliceOf.new ..) pl pu (by rw [sz]; exact hb) hac (by rw [sz]; exact hc) (by rw [sz, List.size_toArray]; omega) ?_
  refine wpAny_release ⟨σ, _, ?_, q⟩
  refine I4.lset (its' := its.take a ++ its2 ++ its.drop c) (t' := s3.toks) hH e ?_ (Vals.append (Vals.append (rv.take _) r2) (rv.drop _)) ?_
  · exact splice_eq its its2 a c
  · rw [List.length_append, List.length_append, List.length_take, List.length_drop]
    omega
end
section
variable {L R R' : Lg} {σ : SS} {l b : Addr} {ns ms : List Int} {G : Hp → Prop}
theorem t_gSl {to : TE} {tl th : TO} {v : V} {Qn : SS → Hp → Prop} (k : Tr L fun H => to σ H fun o H1 => tl σ H1 fun lo H2 => th σ H2 fun hi H3 => rSetSl o lo hi v H3 fun H4 => Qn σ H4) : Tr L fun H => gSl to tl th v σ H Qn := k
theorem ne_led {H : Hp} {L R R' : Lg} {a b : Addr} {o o' : HO} (l : Led H L) (p : Pick a o L R) (q : Pick b o' R R') : a ≠ b := by
  intro e
  subst e
  have n := (List.nodup_cons.mp (l.pick p).nd).1
  exact n (List.mem_map.mpr ⟨_, q.mem, rfl⟩)
/-- xs[:] = ys -/
theorem t_setAll (hp : Pick l (.lst (ns.map V.int)) L R) (hq : Pick b (.lst (ms.map V.int)) R R') (hz : ns.length + ms.length ≤ sizeLine) (k : Tr ((l, .lst (ms.map V.int)) :: R) G) : Tr L fun H => rSetSl (.ref l) none none (.ref b) H G := fun H h =>
  ⟨l, b, _, _, 0, ns.length, rfl, rfl, h.get hp, (h.pick hp).tail.get hq, ne_led h hp hq, by rw [List.length_map]; exact bounds_open _, Nat.zero_le _, by rw [List.length_map]; exact Nat.le_refl _, by rw [List.length_map, List.length_map]; exact hz, by
    have e : (ns.map V.int).take 0 ++ ms.map V.int ++ (ns.map V.int).drop ns.length = ms.map V.int := by
      rw [List.take_zero, List.nil_append, List.drop_of_length_le (by rw [List.length_map]; exact Nat.le_refl _), List.append_nil]
    rw [e]
    exact k _ (h.pick hp).put⟩
/-- xs[i:] = ys -/
theorem t_setFrom {i : Int} (hp : Pick l (.lst (ns.map V.int)) L R) (hq : Pick b (.lst (ms.map V.int)) R R') (h0 : 0 ≤ i) (h1 : i ≤ ns.length) (hz : ns.length + ms.length ≤ sizeLine)
    (k : Tr ((l, .lst ((ns.take i.toNat ++ ms).map V.int)) :: R) G) : Tr L fun H => rSetSl (.ref l) (some i) none (.ref b) H G := fun H h =>
  ⟨l, b, _, _, i.toNat, ns.length, rfl, rfl, h.get hp, (h.pick hp).tail.get hq, ne_led h hp hq, by
      rw [List.length_map]
      have := bounds_from (a := i.toNat) (n := ns.length) (by omega)
      rw [Int.toNat_of_nonneg h0] at this ⊢
      exact this, by omega, by rw [List.length_map]; exact Nat.le_refl _, by rw [List.length_map, List.length_map]; exact hz, by
    have e : (ns.map V.int).take i.toNat ++ ms.map V.int ++ (ns.map V.int).drop ns.length = (ns.take i.toNat ++ ms).map V.int := by
      rw [List.drop_of_length_le (by rw [List.length_map]; exact Nat.le_refl _), List.append_nil, List.map_append, List.map_take]
    rw [e]
    exact k _ (h.pick hp).put⟩
end
end Hz

/-! Hz, part G: data with empty dicts; a ledger grown by what is new. -/
namespace Hz
open PySem PySem.Spec PyProof.Rows L2 RZ
/-! ### what repr reads: a dict may be no sys.modules -/
mutual
inductive Rq (h : Heap) : Value → PyData → Prop where
  | none : Rq h .none .none
  | bool (b : Bool) : Rq h (.bool b) (.bool b)
  | int (i : Int) (t : Nat) : Rq h (.int i t) (.int i)
  | str (x : Str) (t : Nat) : Rq h (.str x t) (.str x)
  | list {a : Addr} {o : Obj} {vs : Array Value} {n : Nat} {ds : List PyData} (g : h.get? a = some o) (c : o.cls = .type "list") (e : o.data = .seq vs n) (r : RqA h vs.toList ds) : Rq h (.ref a) (.list ds)
  | tuple {a : Addr} {o : Obj} {vs : Array Value} {n : Nat} {ds : List PyData} (g : h.get? a = some o) (c : o.cls = .type "tuple") (e : o.data = .seq vs n) (r : RqA h vs.toList ds) : Rq h (.ref a) (.tuple ds)
  | dict {a : Addr} {o : Obj} {es : Array DictEntry} {n : Nat} (g : h.get? a = some o) (c : o.cls = .type "dict") (e : o.data = .dict es n) (z : es.toList = []) (q : (a == sysModules) = false) : Rq h (.ref a) (.dict [])
inductive RqA (h : Heap) : List Value → List PyData → Prop where
  | nil : RqA h [] []
  | cons {v : Value} {vs : List Value} {d : PyData} {ds : List PyData} (r : Rq h v d) (q : RqA h vs ds) : RqA h (v :: vs) (d :: ds)
end
mutual
theorem Rq.reads {h : Heap} : ∀ {v : Value} {d : PyData}, Rq h v d → ∃ as, Reads h v d as
  | _, _, .none => ⟨_, .none⟩
  | _, _, .bool b => ⟨_, .bool b⟩
  | _, _, .int i t => ⟨_, .int i t⟩
  | _, _, .str x t => ⟨_, .str x t⟩
  | _, _, .list g c e r => let ⟨_, q⟩ := RqA.reads r; ⟨_, .list g c e q⟩
  | _, _, .tuple g c e r => let ⟨_, q⟩ := RqA.reads r; ⟨_, .tuple g c e q⟩
  | _, _, .dict (es := es) g c e z q => ⟨_, .dict (kvs := []) g c e (by rw [z]; exact .nil) (by rw [z]; exact .nil)⟩
theorem RqA.reads {h : Heap} : ∀ {vs : List Value} {ds : List PyData}, RqA h vs ds → ∃ as, ReadsAll h vs ds as
  | _, _, .nil => ⟨_, .nil⟩
  | _, _, .cons r q => let ⟨_, a⟩ := Rq.reads r; let ⟨_, b⟩ := RqA.reads q; ⟨_, .cons a b⟩
end
section
variable {P : Program} {w : World} {h : Heap}
theorem RqA.go {vs : List Value} {ds : List PyData} (F : ∀ v d, (v, d) ∈ vs.zip ds → d.showable = true → d.shown.length ≤ sizeLine → ∃ bs, ReadAtMost h d.depth bs ∧ ReprK P w bs h d.depth v d.shown) :
    RqA h vs ds → PyData.showableAll ds = true → (∀ t ∈ PyData.shownAll ds, t.length ≤ sizeLine) → ∃ bs, ReadAtMost h (PyData.depthAll ds) bs ∧ ReprAllK P w bs h (PyData.depthAll ds) vs (PyData.shownAll ds) := by
  induction vs generalizing ds with
  | nil =>
    intro r _ _
    cases r
    exact ⟨[], (fun _ z => nomatch z), by simp only [PyData.shownAll]; exact .nil⟩
  | cons v vs ih =>
    intro r hs hz
    cases r with
    | cons r q =>
      rename_i d ds
      simp only [PyData.showableAll, Bool.and_eq_true] at hs
      simp only [PyData.shownAll, List.mem_cons] at hz
      obtain ⟨b1, r1, k1⟩ := F v d (by simp) hs.1 (hz _ (.inl rfl))
      obtain ⟨b2, r2, k2⟩ := ih (fun v' d' m => F v' d' (by simp [m])) q hs.2 fun t ht => hz t (.inr ht)
      refine ⟨b1 ++ b2, fun b hb => ?_, ?_⟩
      · simp only [PyData.depthAll]
        rcases List.mem_append.mp hb with m | m
        · obtain ⟨d', as', x, y⟩ := r1 b m
          exact ⟨d', as', x, Nat.le_trans y (Nat.le_max_left _ _)⟩
        · obtain ⟨d', as', x, y⟩ := r2 b m
          exact ⟨d', as', x, Nat.le_trans y (Nat.le_max_right _ _)⟩
      · simp only [PyData.depthAll, PyData.shownAll]
        exact .cons ((k1.more fun b m => List.mem_append_left _ m).level_le (Nat.le_max_left _ _)) (k2.more_le (fun b m => List.mem_append_right _ m) (Nat.le_max_right _ _))
theorem rqa_at {vs : List Value} {ds : List PyData} {v : Value} {d : PyData} (r : RqA h vs ds) (m : (v, d) ∈ vs.zip ds) : Rq h v d := by
  induction vs generalizing ds with
  | nil => cases r; simp at m
  | cons x vs ih =>
    cases r with
    | cons r q =>
      simp only [List.zip_cons_cons, List.mem_cons, Prod.mk.injEq] at m
      rcases m with ⟨rfl, rfl⟩ | m
      · exact r
      · exact ih q m
theorem rqa_sz {vs : List Value} {ds : List PyData} {v : Value} {d : PyData} (m : (v, d) ∈ vs.zip ds) : sizeOf d < sizeOf ds := List.sizeOf_lt_of_mem (List.of_mem_zip m).2
theorem Rq.reprN : ∀ (N : Nat) {v : Value} {d : PyData}, sizeOf d ≤ N → Rq h v d → d.showable = true → d.shown.length ≤ sizeLine → ∃ bs, ReadAtMost h d.depth bs ∧ ReprK P w bs h d.depth v d.shown := by
  intro N
  induction N with
  | zero =>
    intro v d hN
    exfalso
    cases d <;> simp at hN <;> omega
  | succ N ihN =>
  intro v d hN r hs hz
  have r0 := r
  cases r with
  | none => exact ⟨[], (fun _ z => nomatch z), by simp only [PyData.shown]; exact .of_is ReprIs.none _ _ _⟩
  | bool b => exact ⟨[], (fun _ z => nomatch z), by simp only [PyData.shown]; exact .of_is (ReprIs.bool b) _ _ _⟩
  | int i t => exact ⟨[], (fun _ z => nomatch z), by simp only [PyData.shown]; exact .of_is (ReprIs.int t (by simpa [PyData.showable] using hs)) _ _ _⟩
  | str x t => exact ⟨[], (fun _ z => nomatch z), by simp only [PyData.shown]; exact .of_is (ReprIs.str x t (by simpa only [PyData.shown] using hz)) _ _ _⟩
  | list g c e r =>
    rename_i a o vs n ds
    obtain ⟨as, rr⟩ := r0.reads
    simp only [PyData.showable] at hs
    have hz2 : (listText (PyData.shownAll ds)).length ≤ sizeLine := by simpa only [PyData.shown] using hz
    obtain ⟨bs, hb, hk⟩ := RqA.go (P := P) (w := w) (fun v d m h1 h2 => ihN (by have := rqa_sz m; simp at hN; omega) (rqa_at r m) h1 h2) r hs fun t ht => Nat.le_trans (listText_mem_le ht) hz2
    have hna : a ∉ bs := not_mem_of_deeper rr (by simp only [PyData.depth]; omega) hb
    refine ⟨a :: bs, ReadAtMost.cons rr (by simp only [PyData.depth]; omega) hb, ?_⟩
    simp only [PyData.depth, PyData.shown]
    obtain ⟨l⟩ := vs
    cases l with
    | nil =>
      cases r
      simp only [PyData.shownAll, listText_nil]
      exact ReprK.listEmpty g c e
    | cons x l => exact ReprK.list g c e hna (by simpa using hk.length_eq) fun i y z => hk.item i y (by simpa using z)
  | tuple g c e r =>
    rename_i a o vs n ds
    obtain ⟨as, rr⟩ := r0.reads
    simp only [PyData.showable] at hs
    have hz2 : (tupleText (PyData.shownAll ds)).length ≤ sizeLine := by simpa only [PyData.shown] using hz
    obtain ⟨bs, hb, hk⟩ := RqA.go (P := P) (w := w) (fun v d m h1 h2 => ihN (by have := rqa_sz m; simp at hN; omega) (rqa_at r m) h1 h2) r hs fun t ht => Nat.le_trans (tupleText_mem_le ht) hz2
    have hna : a ∉ bs := not_mem_of_deeper rr (by simp only [PyData.depth]; omega) hb
    refine ⟨a :: bs, ReadAtMost.cons rr (by simp only [PyData.depth]; omega) hb, ?_⟩
    simp only [PyData.depth, PyData.shown]
    exact ReprK.tuple g c e hna hk
  | dict g c e z q =>
    rename_i a o es n
    obtain ⟨as, rr⟩ := r0.reads
    refine ⟨[a], ReadAtMost.cons rr (Nat.zero_le _) (bs := []) (n := 0) (fun _ z => nomatch z), ?_⟩
    simp only [PyData.depth, PyData.depthKv, PyData.shown, PyData.shownKv]
    exact ReprK.dict g c e q (by simp) (by rw [z]; exact .nil)
theorem Rq.repr {v : Value} {d : PyData} (r : Rq h v d) (hs : d.showable = true) (hz : d.shown.length ≤ sizeLine) : ∃ bs, ReadAtMost h d.depth bs ∧ ReprK P w bs h d.depth v d.shown := Rq.reprN _ (Nat.le_refl _) r hs hz
theorem Rq.shows {a : Addr} {d : PyData} (r : Rq h (.ref a) d) (hs : d.showable = true) (hz : d.shown.length ≤ sizeLine) : ∃ T idr, ShowsBy P w h a d T idr := by
  have r0 := r
  cases r with
  | list g c e r =>
    rename_i o vs n ds
    obtain ⟨as, rr⟩ := r0.reads
    simp only [PyData.showable] at hs
    have hz2 : (listText (PyData.shownAll ds)).length ≤ sizeLine := by simpa only [PyData.shown] using hz
    obtain ⟨bs, hb, hk⟩ := RqA.go (P := P) (w := w) (fun v d m h1 h2 => Rq.repr (rqa_at r m) h1 h2) r hs fun t ht => Nat.le_trans (listText_mem_le ht) hz2
    have hna : a ∉ bs := not_mem_of_deeper rr (by simp only [PyData.depth]; omega) hb
    refine ⟨"list", "list.__repr__", F.slot_list_repr.toG, F.slot_list_str, F.slot_list_format, fun s hk0 => ⟨o, hk0 _ _ g, c⟩, fun A E s Q hg hu hk0 hQ => ?_⟩
    simp only [PyData.depth] at hu
    simp only [PyData.shown] at hQ
    obtain ⟨l⟩ := vs
    cases l with
    | nil =>
      cases r
      simp only [PyData.shownAll, listText_nil] at hQ
      exact call_list_repr_empty ⟨o, hk0 _ _ g, c⟩ (hk0 _ _ g) e (hQ s.heap _ _ fun _ _ z => z)
    | cons x l => exact call_list_reprK g c e hna (by simpa using hk.length_eq) (fun i y z => hk.item i y (by simpa using z)) hg (fun b _ => Clear.nil b) hu hk0 hQ hz2
  | tuple g c e r =>
    rename_i o vs n ds
    obtain ⟨as, rr⟩ := r0.reads
    simp only [PyData.showable] at hs
    have hz2 : (tupleText (PyData.shownAll ds)).length ≤ sizeLine := by simpa only [PyData.shown] using hz
    obtain ⟨bs, hb, hk⟩ := RqA.go (P := P) (w := w) (fun v d m h1 h2 => Rq.repr (rqa_at r m) h1 h2) r hs fun t ht => Nat.le_trans (tupleText_mem_le ht) hz2
    have hna : a ∉ bs := not_mem_of_deeper rr (by simp only [PyData.depth]; omega) hb
    refine ⟨"tuple", "tuple.__repr__", F.slot_tuple_repr, F.slot_tuple_str, F.slot_tuple_format, fun s hk0 => ⟨o, hk0 _ _ g, c⟩, fun A E s Q hg hu hk0 hQ => ?_⟩
    simp only [PyData.depth] at hu
    simp only [PyData.shown] at hQ
    exact call_tuple_reprK g c e hna hk hg (fun b _ => Clear.nil b) hu hk0 hQ hz2
  | dict g c e z q =>
    rename_i o es n
    refine ⟨"dict", "dict.__repr__", F.slot_dict_repr, F.slot_dict_str, F.slot_dict_format, fun s hk0 => ⟨o, hk0 _ _ g, c⟩, fun A E s Q hg hu hk0 hQ => ?_⟩
    simp only [PyData.depth, PyData.depthKv] at hu
    simp only [PyData.shown, PyData.shownKv] at hQ hz
    exact call_dict_reprK (as := []) g c e q (by simp) (ps := []) (by rw [z]; exact .nil) hg (fun b _ => Clear.nil b) hu hk0 hQ hz
end
/-! ### data by the ledger, empty dicts among them -/
mutual
inductive Dv (L : Lg) : V → PyData → Prop where
  | non : Dv L .non .none
  | bl (b : Bool) : Dv L (.bl b) (.bool b)
  | int (i : Int) : Dv L (.int i) (.int i)
  | str (z : Str) : Dv L (.str z) (.str z)
  | lst {a : Addr} {xs : List V} {ds : List PyData} (m : (a, .lst xs) ∈ L) (r : DvAll L xs ds) : Dv L (.ref a) (.list ds)
  | tup {a : Addr} {xs : List V} {ds : List PyData} (m : (a, .tup xs) ∈ L) (r : DvAll L xs ds) : Dv L (.ref a) (.tuple ds)
  | dct {a : Addr} (m : (a, .dK []) ∈ L) : Dv L (.ref a) (.dict [])
inductive DvAll (L : Lg) : List V → List PyData → Prop where
  | nil : DvAll L [] []
  | cons {x : V} {xs : List V} {d : PyData} {ds : List PyData} (h : Dv L x d) (r : DvAll L xs ds) : DvAll L (x :: xs) (d :: ds)
end
mutual
theorem Dv.mono {L M : Lg} (s : ∀ p ∈ L, p ∈ M) : ∀ {x : V} {d : PyData}, Dv L x d → Dv M x d
  | _, _, .non => .non
  | _, _, .bl b => .bl b
  | _, _, .int i => .int i
  | _, _, .str z => .str z
  | _, _, .lst m h => .lst (s _ m) (DvAll.mono s h)
  | _, _, .tup m h => .tup (s _ m) (DvAll.mono s h)
  | _, _, .dct m => .dct (s _ m)
theorem DvAll.mono {L M : Lg} (s : ∀ p ∈ L, p ∈ M) : ∀ {xs : List V} {ds : List PyData}, DvAll L xs ds → DvAll M xs ds
  | _, _, .nil => .nil
  | _, _, .cons h r => .cons (Dv.mono s h) (DvAll.mono s r)
end
mutual
theorem Dt.dv {L : Lg} : ∀ {x : V} {d : PyData}, Dt L x d → Dv L x d
  | _, _, .non => .non
  | _, _, .bl b => .bl b
  | _, _, .int i => .int i
  | _, _, .str z => .str z
  | _, _, .lst m h => .lst m (DtAll.dv h)
  | _, _, .tup m h => .tup m (DtAll.dv h)
theorem DtAll.dv {L : Lg} : ∀ {xs : List V} {ds : List PyData}, DtAll L xs ds → DvAll L xs ds
  | _, _, .nil => .nil
  | _, _, .cons h r => .cons (Dt.dv h) (DtAll.dv r)
end
theorem DvAll.len {L : Lg} : ∀ {xs : List V} {ds : List PyData}, DvAll L xs ds → xs.length = ds.length
  | _, _, .nil => rfl
  | _, _, .cons _ r => by rw [List.length_cons, List.length_cons, r.len]
theorem DvAll.get {L : Lg} : ∀ {xs : List V} {ds : List PyData} {i : Nat} {x : V}, DvAll L xs ds → xs[i]? = some x → ∃ d, ds[i]? = some d ∧ Dv L x d
  | _, _, 0, _, .cons h _, e => by cases e; exact ⟨_, rfl, h⟩
  | _, _, i + 1, _, .cons _ r, e => r.get (i := i) (by simpa using e)
theorem DvAll.ints {L : Lg} (ns : List Int) : DvAll L (ns.map V.int) (ns.map PyData.int) := (DtAll.ints ns).dv
theorem DvAll.app {L : Lg} : ∀ {xs ys : List V} {ds es : List PyData}, DvAll L xs ds → DvAll L ys es → DvAll L (xs ++ ys) (ds ++ es)
  | _, _, _, _, .nil, h => h
  | _, _, _, _, .cons h r, h2 => .cons h (r.app h2)
theorem Dv.ints {L : Lg} {a : Addr} {ns : List Int} (h : (a, .lst (ns.map V.int)) ∈ L) : Dv L (.ref a) (.list (ns.map PyData.int)) := .lst h (.ints ns)
theorem Dv.intsT {L : Lg} {a : Addr} {ns : List Int} (h : (a, .tup (ns.map V.int)) ∈ L) : Dv L (.ref a) (.tuple (ns.map PyData.int)) := .tup h (.ints ns)
theorem Dv.ty {L : Lg} {x : V} {d : PyData} (h : Dv L x d) : HasTy L x (dtName d) := by
  cases h with
  | non => exact .non
  | bl b => exact .bl b
  | int i => exact .int i
  | str z => exact .str z
  | lst m _ => exact .lst m
  | tup m _ => exact .tup m
  | dct m => exact .dct m
section
variable {X : Cx} {pins : List (Addr × Obj)} {σ : L2.St} {H : Hp} {s : Shared} {L : Lg}
mutual
theorem Dv.rq (I : Inv X pins σ H s) (l : Led H L) : ∀ {x : V} {d : PyData} {u : Value}, Dv L x d → RelV x u → Rq s.heap u d
  | _, _, _, .non, r => by cases r; exact .none
  | _, _, _, .bl b, r => by cases r; exact .bool b
  | _, _, _, .int i, r => by obtain ⟨t, rfl⟩ := r; exact .int i t
  | _, _, _, .str z, r => by obtain ⟨t, rfl⟩ := r; exact .str z t
  | _, _, _, .lst m h, r => by
    cases r
    obtain ⟨its, rv, ⟨o, n, ho, hc, _, hd⟩, _⟩ := I.list (.inl (.inl (l.has _ m)))
    exact .list ho hc hd (by rw [List.toList_toArray]; exact DvAll.rq I l h rv)
  | _, _, _, .tup m h, r => by
    cases r
    obtain ⟨its, rv, ⟨o, ho, hc, n, hd⟩, _⟩ := I.tuple (.inl (.inl (l.has _ m)))
    exact .tuple ho hc hd (by rw [List.toList_toArray]; exact DvAll.rq I l h rv)
  | _, _, _, .dct m, r => by
    cases r
    obtain ⟨_, hq, vs, rel, o, es, ep, e, x, hd, _, pr, _⟩ := I.hok _ _ (l.has _ m)
    cases rel
    refine .dict e x.1 hd ?_ hq
    revert pr
    generalize es.toList = l
    intro pr
    cases pr; rfl
theorem DvAll.rq (I : Inv X pins σ H s) (l : Led H L) : ∀ {xs : List V} {ds : List PyData} {us : List Value}, DvAll L xs ds → Vals xs us → RqA s.heap us ds
  | _, _, _, .nil, r => by cases r; exact .nil
  | _, _, _, .cons h q, r => by
    cases r with
    | cons r1 r2 => exact .cons (Dv.rq I l h r1) (DvAll.rq I l q r2)
end
end
end Hz
namespace Hz
open PySem PySem.Spec PyProof.Rows L2 RZ
/-! ### what can be shown -/
/-- d's text has at most n signs, it is nested at most k deep -/
def Sz (n k : Nat) (d : PyData) : Prop := d.showable = true ∧ d.depth ≤ k ∧ d.shown.length ≤ n
theorem Sz.le {n k m j : Nat} {d : PyData} (h : Sz n k d) (e1 : n ≤ m) (e2 : k ≤ j) : Sz m j d := ⟨h.1, Nat.le_trans h.2.1 e2, Nat.le_trans h.2.2 e1⟩
theorem Sz.none : Sz 4 0 .none := ⟨by simp only [PyData.showable], by simp only [PyData.depth]; omega, by simp only [PyData.shown]; decide⟩
theorem Sz.bool (b : Bool) : Sz 5 0 (.bool b) := ⟨by simp only [PyData.showable], by simp only [PyData.depth]; omega, by cases b <;> simp only [PyData.shown] <;> decide⟩
theorem Sz.int {i : Int} (N : Nat) (h0 : 0 < N) (h1 : N ≤ 1000) (h : i.natAbs < 2 ^ N) : Sz (N + 1) 0 (.int i) := by
  have z := PySem.Flt.log2_lt_of h0 h
  refine ⟨by simp only [PyData.showable, decide_eq_true_eq]; omega, by simp only [PyData.depth]; omega, ?_⟩
  simp only [PyData.shown]
  rw [PySem.ofString_length]
  exact int_text_length_le h0 z
theorem Sz.str {z : Str} (h : ∀ c ∈ z.cps.toList, c < 16 ^ 8) : Sz (10 * z.cps.size + 8) 0 (.str z) := by
  refine ⟨by simp only [PyData.showable], by simp only [PyData.depth]; omega, ?_⟩
  have := PyData.shown_le 8 (by decide) (.str z) (by simp only [PyData.leavesShort, List.all_eq_true, decide_eq_true_eq]; exact h)
  simpa only [PyData.weight] using this
theorem Sz.dct : Sz 2 1 (.dict []) := ⟨by simp only [PyData.showable, PyData.showableKv], by simp only [PyData.depth, PyData.depthKv]; omega, by simp only [PyData.shown, PyData.shownKv]; decide⟩
theorem sz_show {n k : Nat} : ∀ {ds : List PyData}, (∀ d ∈ ds, Sz n k d) → PyData.showableAll ds = true
  | [], _ => by simp only [PyData.showableAll]
  | d :: r, h => by simp only [PyData.showableAll, (h d (.head _)).1, sz_show fun e m => h e (.tail _ m), Bool.and_self]
theorem sz_deep {n k : Nat} : ∀ {ds : List PyData}, (∀ d ∈ ds, Sz n k d) → PyData.depthAll ds ≤ k
  | [], _ => by simp only [PyData.depthAll]; omega
  | d :: r, h => by
    have h1 := (h d (.head _)).2.1
    have h2 := sz_deep (ds := r) fun e m => h e (.tail _ m)
    simp only [PyData.depthAll]; omega
theorem sz_sum {n k : Nat} : ∀ {ds : List PyData}, (∀ d ∈ ds, Sz n k d) → ((PyData.shownAll ds).map (·.length)).sum ≤ ds.length * n ∧ (PyData.shownAll ds).length = ds.length
  | [], _ => by simp [PyData.shownAll]
  | d :: r, h => by
    have h1 := (h d (.head _)).2.2
    obtain ⟨h2, h3⟩ := sz_sum (ds := r) fun e m => h e (.tail _ m)
    simp only [PyData.shownAll, List.map_cons, List.sum_cons, List.length_cons, h3, Nat.add_mul, Nat.one_mul]
    exact ⟨by omega, trivial⟩
theorem Sz.list {n k : Nat} {ds : List PyData} (m : Nat) (h : ∀ d ∈ ds, Sz n k d) (hl : ds.length ≤ m) : Sz (m * n + 2 * m + 3) (k + 1) (.list ds) := by
  obtain ⟨h1, h2⟩ := sz_sum h
  refine ⟨by simp only [PyData.showable]; exact sz_show h, by have := sz_deep h; simp only [PyData.depth]; omega, ?_⟩
  have h3 := listText_len_le (PyData.shownAll ds)
  have h4 : ds.length * n ≤ m * n := Nat.mul_le_mul_right _ hl
  simp only [PyData.shown]
  omega
theorem Sz.tuple {n k : Nat} {ds : List PyData} (m : Nat) (h : ∀ d ∈ ds, Sz n k d) (hl : ds.length ≤ m) : Sz (m * n + 2 * m + 3) (k + 1) (.tuple ds) := by
  obtain ⟨h1, h2⟩ := sz_sum h
  refine ⟨by simp only [PyData.showable]; exact sz_show h, by have := sz_deep h; simp only [PyData.depth]; omega, ?_⟩
  have h3 := tupleText_len_le (PyData.shownAll ds)
  have h4 : ds.length * n ≤ m * n := Nat.mul_le_mul_right _ hl
  simp only [PyData.shown]
  omega
theorem Sz.ints {ns : List Int} (N m : Nat) (h0 : 0 < N) (h1 : N ≤ 1000) (h : ∀ n ∈ ns, n.natAbs < 2 ^ N) (hl : ns.length ≤ m) : Sz (m * (N + 1) + 2 * m + 3) 1 (.list (ns.map PyData.int)) :=
  Sz.list m (fun d hd => by obtain ⟨n, hn, rfl⟩ := List.mem_map.mp hd; exact Sz.int N h0 h1 (h n hn)) (by rw [List.length_map]; exact hl)
theorem Sz.intsT {ns : List Int} (N m : Nat) (h0 : 0 < N) (h1 : N ≤ 1000) (h : ∀ n ∈ ns, n.natAbs < 2 ^ N) (hl : ns.length ≤ m) : Sz (m * (N + 1) + 2 * m + 3) 1 (.tuple (ns.map PyData.int)) :=
  Sz.tuple m (fun d hd => by obtain ⟨n, hn, rfl⟩ := List.mem_map.mp hd; exact Sz.int N h0 h1 (h n hn)) (by rw [List.length_map]; exact hl)
/-! ### repr of data -/
section
variable {X : Cx}
/-- repr(x), x data by any ledger that the heap holds -/
def rReprV : List V → Hp → VK → Prop := fun xs H Q => ∃ x d L, xs = [x] ∧ Led H L ∧ Dv L x d ∧ d.showable = true ∧ d.depth < 60 ∧ d.shown.length ≤ sizeLine ∧ Q (.str d.shown) H
theorem call_reprV (gd : X.A.guards = some []) (hu : X.A.units + 64 < cLine) : CallR X (.builtin "repr") rReprV := by
  intro pins s σ H xs us Q I r h
  obtain ⟨x, d, L, rfl, l, hd, hs, hk, hz, q⟩ := h
  obtain ⟨u, rfl, ru⟩ := vals1 r
  have rq := hd.rq I l ru
  have deep : ∀ {a : Addr}, Rq s.heap (.ref a) d → wpAny (model X.prog X.w) X.A (call (.builtin "repr") [.ref a]) (EP X pins σ Q) X.xe s := fun {a} rq => by
    obtain ⟨T, idr, S⟩ := rq.shows (P := X.prog) (w := X.w) hs hz
    exact call_repr_slot (by omega) (S.typeIs s fun _ _ z => z) S.slotRepr (S.call X.A.in1 X.xe s _ gd (by show X.A.units + 1 + d.depth < cLine; omega) (fun _ _ z => z) fun h' u tk hk => ⟨_, _, rfl, ⟨.str _, H, I.kept hk, ⟨_, rfl⟩, q⟩⟩)
  cases hd with
  | non =>
    cases (show u = Value.none from ru)
    exact PySem.P.repr_of_none ⟨.str _, H, I.tok _, ⟨_, rfl⟩, by simpa only [PyData.shown] using q⟩
  | bl b =>
    cases (show u = Value.bool b from ru)
    exact PySem.P.repr_of_bool ⟨.str _, H, I.tok _, ⟨_, rfl⟩, by simpa only [PyData.shown] using q⟩
  | int i =>
    obtain ⟨t, rfl⟩ := ru
    exact PySem.P.repr_of_int (by simpa [PyData.showable] using hs) ⟨.str _, H, I.tok _, ⟨_, rfl⟩, by simpa only [PyData.shown] using q⟩
  | str y =>
    obtain ⟨t, rfl⟩ := ru
    exact PySem.P.repr_of_str ⟨.str _, H, I.tok _, ⟨_, rfl⟩, by simpa only [PyData.shown] using q⟩ (by simpa only [PyData.shown] using hz)
  | lst _ _ =>
    cases (show u = Value.ref _ from ru)
    exact deep rq
  | tup _ _ =>
    cases (show u = Value.ref _ from ru)
    exact deep rq
  | dct _ =>
    cases (show u = Value.ref _ from ru)
    exact deep rq
end
section
variable {L M R : Lg} {Q : VK} {x : V} {d : PyData} {a : Addr}
theorem t_reprV (hd : Dv L x d) (n k : Nat) (hs : Sz n k d) (hn : n ≤ 16777216) (hk : k < 60) (q : Tr L fun H => Q (.str d.shown) H) : Tr L fun H => rReprV [x] H Q :=
  fun H l => ⟨x, d, L, rfl, l, hd, hs.1, Nat.lt_of_le_of_lt hs.2.1 hk, by rw [sizeLine_eq]; exact Nat.le_trans hs.2.2 hn, q H l⟩
theorem t_reprVI {ns : List Int} (hm : (a, .lst (ns.map V.int)) ∈ L) (h : ∀ n ∈ ns, n.natAbs < 2 ^ 1000) (hl : ns.length ≤ 16000) (q : Tr L fun H => Q (.str (reprI ns)) H) : Tr L fun H => rReprV [.ref a] H Q :=
  t_reprV (Dv.ints hm) _ _ (Sz.ints 1000 16000 (by decide) (by decide) h hl) (by decide) (by decide) q
/-! ### what is new stands ahead of what was -/
theorem Pick.app {o : HO} : ∀ (N : Lg) {L R : Lg}, Pick a o L R → Pick a o (N ++ L) (N ++ R)
  | [], _, _, h => h
  | _ :: N, _, _, h => .tail (Pick.app N h)
theorem Sub.app : ∀ (N : Lg) {L M : Lg}, Sub L M → Sub (N ++ L) M
  | [], _, _, h => h
  | _ :: N, _, _, h => .drop (Sub.app N h)
/-- M is N ahead of L -/
inductive Pre : Lg → Lg → Lg → Prop where
  | nil {L : Lg} : Pre L L []
  | cons {x : Addr × HO} {M L N : Lg} : Pre M L N → Pre (x :: M) L (x :: N)
  | app (K : Lg) {M L N : Lg} : Pre M L N → Pre (K ++ M) L (K ++ N)
theorem Pre.eq {M L N : Lg} (h : Pre M L N) : M = N ++ L := by
  induction h with
  | nil => rfl
  | cons _ ih => rw [ih]; rfl
  | app K _ ih => rw [ih, List.append_assoc]
theorem t_pre {o : HO} {N : Lg} {G : Hp → Prop} (hp : Pick a o M R) (h : Pre R L N) (k : Tr ((a, o) :: (N ++ L)) G) : Tr M G := by
  rw [← h.eq] at k
  exact Tr.pick hp k
theorem t_preV {o : HO} {N : Lg} {G : Hp → Prop} (S : PyData → Prop) (k : ∀ d, Dv (N ++ L) x d → S d → Tr ((a, o) :: (N ++ L)) G) (hp : Pick a o M R) (h : Pre R L N) (key : ∃ d, Dv R x d ∧ S d) : Tr M G := by
  obtain ⟨d, h1, h2⟩ := key
  rw [h.eq] at h1
  exact t_pre hp h (k d h1 h2)
theorem t_pre0 {N : Lg} {G : Hp → Prop} (h : Pre M L N) (k : Tr (N ++ L) G) : Tr M G := by
  rw [h.eq]; exact k
end
end Hz
namespace Hz
open PySem PySem.Spec PyProof.Rows L2 RZ
section
variable {L : Lg} {σ : SS} {Q : VK}
/-- {} -/
theorem t_dnewK (k : ∀ p, Tr ((p, .dK []) :: L) fun H => Q (.ref p) H) : Tr L fun H => tDNewK σ H Q := fun H l p hp => k p _ (l.new hp)
end
end Hz
namespace Hz
open PySem PySem.Spec PyProof.Rows L2 RZ
/-- ways come together: what is known then bears a name -/
theorem t_join {α : Type} {L : Lg} {G : Hp → Prop} {T : Hp → Prop} (X : α → Lg) (J : α → Prop) (k : (∀ y M, J y → Sub M (X y) → Tr M T) → Tr L G) (main : ∀ y, J y → Tr (X y) T) : Tr L G := k fun y M h s => (main y h).sub s
end Hz
namespace Hz
open PySem PySem.Spec PyProof.Rows L2 RZ
section
variable {L R R' : Lg} {Q : VK} {K : PySem.W.Frag} {a b p : Addr} {xs ys : List V}
theorem t_extend (hp : Pick a (.lst xs) L R) (hq : Pick b (.lst ys) L R') (hz : xs.length + ys.length ≤ sizeLine) (k : Tr ((a, .lst (xs ++ ys)) :: R) fun H => Q .non H) : Tr L fun H => rExtend (.ref a) [.ref b] H Q :=
  fun H l => ⟨a, b, xs, ys, rfl, rfl, l.get hp, l.get hq, hz, k _ (l.pick hp).put⟩
/-- xs[i] = v -/
theorem t_setV {i : Int} {v : V} {G : Hp → Prop} (hp : Pick p (.lst xs) L R) (h0 : 0 ≤ i) (h1 : i < xs.length) (k : Tr ((p, .lst (xs.set i.toNat v)) :: R) G) : Tr L fun H => rSetL (.ref p) (.int i) v H G :=
  t_setL (j := i.toNat) hp (by unfold ixN; first | rfl | (split <;> simp_all <;> omega)) k
/-! ### lists of tuples of two ints -/
def prD (p : Int × Int) : PyData := .tuple [.int p.1, .int p.2]
def prsD (ps : List (Int × Int)) : PyData := .list (ps.map prD)
/-- xs are tuples of two ints -/
def Prs (L : Lg) (xs : List V) (ps : List (Int × Int)) : Prop := DtAll L xs (ps.map prD)
theorem Dt.inv {L : Lg} {x : V} {p : Int × Int} (h : Dt L x (prD p)) : ∃ T, x = .ref T ∧ (T, .tup [.int p.1, .int p.2]) ∈ L := by
  unfold prD at h
  cases h with
  | tup m r =>
    cases r with
    | cons h1 r =>
      cases h1
      cases r with
      | cons h2 r =>
        cases h2
        cases r
        exact ⟨_, rfl, m⟩
theorem Dt.pr {L : Lg} {T : Addr} {s l : Int} (m : (T, .tup [.int s, .int l]) ∈ L) : Dt L (.ref T) (prD (s, l)) := .tup m (.cons (.int _) (.cons (.int _) .nil))
theorem Prs.len {L : Lg} {xs : List V} {ps : List (Int × Int)} (h : Prs L xs ps) : xs.length = ps.length := by
  have := DtAll.len h
  rwa [List.length_map] at this
theorem Prs.at {L : Lg} {xs : List V} {ps : List (Int × Int)} (h : Prs L xs ps) {i : Nat} {v : V} (e : xs[i]? = some v) : ∃ T p, v = .ref T ∧ ps[i]? = some p ∧ (T, .tup [.int p.1, .int p.2]) ∈ L := by
  obtain ⟨d, e1, hd⟩ := DtAll.get h e
  rw [List.getElem?_map] at e1
  cases e2 : ps[i]? with
  | none => rw [e2] at e1; cases e1
  | some p =>
    rw [e2] at e1
    cases e1
    obtain ⟨T, rfl, m⟩ := hd.inv
    exact ⟨T, p, rfl, rfl, m⟩
theorem Prs.mono {L M : Lg} (s : ∀ p ∈ L, p ∈ M) {xs : List V} {ps : List (Int × Int)} (h : Prs L xs ps) : Prs M xs ps := DtAll.mono s h
theorem DtAll.app {L : Lg} : ∀ {xs ys : List V} {ds es : List PyData}, DtAll L xs ds → DtAll L ys es → DtAll L (xs ++ ys) (ds ++ es)
  | _, _, _, _, .nil, h => h
  | _, _, _, _, .cons h r, h2 => .cons h (r.app h2)
theorem DtAll.set {L : Lg} : ∀ {xs : List V} {ds : List PyData} {x : V} {d : PyData} (i : Nat), DtAll L xs ds → Dt L x d → DtAll L (xs.set i x) (ds.set i d)
  | _, _, _, _, _, .nil, _ => .nil
  | _, _, _, _, 0, .cons _ r, h => .cons h r
  | _, _, _, _, i + 1, .cons h0 r, h => .cons h0 (r.set i h)
theorem Prs.app {L : Lg} {xs ys : List V} {ps qs : List (Int × Int)} (h : Prs L xs ps) (h2 : Prs L ys qs) : Prs L (xs ++ ys) (ps ++ qs) := by
  unfold Prs
  rw [List.map_append]
  exact DtAll.app h h2
theorem Prs.set {L : Lg} {xs : List V} {ps : List (Int × Int)} {x : V} {p : Int × Int} (i : Nat) (h : Prs L xs ps) (h2 : Dt L x (prD p)) : Prs L (xs.set i x) (ps.set i p) := by
  unfold Prs
  rw [List.map_set]
  exact DtAll.set i h h2
theorem Prs.one {L : Lg} {T : Addr} {s l : Int} (m : (T, .tup [.int s, .int l]) ∈ L) : Prs L [.ref T] [(s, l)] := .cons (.pr m) .nil
theorem Prs.snoc {L : Lg} {xs : List V} {ps : List (Int × Int)} {T : Addr} {s l : Int} (h : Prs L xs ps) (m : (T, .tup [.int s, .int l]) ∈ L) : Prs L (xs ++ [.ref T]) (ps ++ [(s, l)]) := h.app (.one m)
theorem Prs.dt {L : Lg} {xs : List V} {ps : List (Int × Int)} (h : Prs L xs ps) (m : (a, .lst xs) ∈ L) : Dt L (.ref a) (prsD ps) := .lst m h
/-- numbers of at most 110 bits -/
def Sm (ps : List (Int × Int)) : Prop := ∀ p ∈ ps, 0 ≤ p.1 ∧ p.1 < 2 ^ 110 ∧ 0 ≤ p.2 ∧ p.2 < 2 ^ 110
theorem Sz.pr {p : Int × Int} (h : 0 ≤ p.1 ∧ p.1 < 2 ^ 110 ∧ 0 ≤ p.2 ∧ p.2 < 2 ^ 110) : Sz 300 1 (prD p) :=
  (Sz.tuple (n := 111) (k := 0) 2 (fun d hd => by
    simp only [List.mem_cons, List.not_mem_nil, or_false] at hd
    rcases hd with rfl | rfl
    · exact Sz.int 110 (by decide) (by decide) (by omega)
    · exact Sz.int 110 (by decide) (by decide) (by omega)) (by simp)).le (by decide) (by decide)
theorem Sz.prs {ps : List (Int × Int)} (m : Nat) (h : Sm ps) (hl : ps.length ≤ m) : Sz (m * 300 + 2 * m + 3) 2 (prsD ps) :=
  Sz.list m (fun d hd => by obtain ⟨p, hp, rfl⟩ := List.mem_map.mp hd; exact Sz.pr (h p hp)) (by rw [List.length_map]; exact hl)
theorem eqvAll_prs : ∀ ps qs : List (Int × Int), PyData.eqvAll (ps.map prD) (qs.map prD) = decide (ps = qs)
  | [], [] => by simp [PyData.eqvAll]
  | [], _ :: _ => by simp [PyData.eqvAll]
  | _ :: _, [] => by simp [PyData.eqvAll]
  | (s, l) :: r, (s', l') :: r' => by
    simp only [List.map_cons, PyData.eqvAll, prD, PyData.eqv, eqvAll_prs r r', List.cons.injEq, Prod.mk.injEq, Bool.decide_and, Bool.and_true]
    rfl
theorem eqv_prs (ps qs : List (Int × Int)) : PyData.eqv (prsD ps) (prsD qs) = decide (ps = qs) := by
  simp only [prsD, PyData.eqv, eqvAll_prs]
theorem shaped_prs (ps : List (Int × Int)) : SeqAt.shaped (prsD ps) = true := by
  have c : ∀ ps : List (Int × Int), PyData.canLayAll0 (ps.map prD) = true := by
    intro ps
    induction ps with
    | nil => simp [PyData.canLayAll0]
    | cons n r ih => simp [PyData.canLayAll0, PyData.canLay0, prD, ih]
  have d : ∀ ps : List (Int × Int), PyData.depthAll (ps.map prD) ≤ 1 := by
    intro ps
    induction ps with
    | nil => simp [PyData.depthAll]
    | cons n r ih =>
      simp only [List.map_cons, PyData.depthAll, prD, PyData.depth]
      exact Nat.max_le.mpr ⟨by decide, ih⟩
  have := d ps
  unfold SeqAt.shaped prsD
  simp [PyData.canLay0, c, PyData.depth]
  omega
theorem t_eqPrs {ps qs : List (Int × Int)} (ha : Dt L (.ref a) (prsD ps)) (hb : Dt L (.ref b) (prsD qs)) (k : Tr L fun H => Q (.bl (decide (ps = qs))) H) : Tr L fun H => rEqD K (.ref a) (.ref b) H Q :=
  t_eqD ha.dpl hb.dpl (shaped_prs ps) (shaped_prs qs) (by rw [eqv_prs]; exact k)
theorem t_nePrs {ps qs : List (Int × Int)} (ha : Dt L (.ref a) (prsD ps)) (hb : Dt L (.ref b) (prsD qs)) (k : Tr L fun H => Q (.bl (!decide (ps = qs))) H) : Tr L fun H => rNeD K (.ref a) (.ref b) H Q :=
  t_neD ha.dpl hb.dpl (shaped_prs ps) (shaped_prs qs) (by rw [eqv_prs]; exact k)
end
end Hz
namespace Hz
open PySem PySem.Spec PyProof.Rows L2 RZ
/-- ways come together: two ints, o otherwise known -/
theorem t_joinP {L : Lg} {G : Hp → Prop} {T : Int → Int → Hp → Prop} (X : Int → Int → HO → Lg) (J : Int → Int → HO → Prop) (k : (∀ i j o M, J i j o → Sub M (X i j o) → Tr M (T i j)) → Tr L G) (main : ∀ i j o, J i j o → Tr (X i j o) (T i j)) : Tr L G := k fun i j o M h s => (main i j o h).sub s
end Hz
namespace Hz
open PySem PySem.Spec PyProof.Rows L2 RZ
/-- ns[:i], i may lie behind the end -/
theorem cutI_upto {ns : List Int} {i : Int} (h0 : 0 ≤ i) : cutI ns none (some i) = ns.take i.toNat := by
  unfold cutI
  have e : HT.sIx ns.length ns.length (some i) = min i.toNat ns.length := by
    show (if i < 0 then _ else min i.toNat ns.length) = min i.toNat ns.length
    rw [if_neg (by omega)]
  rw [e]
  show (ns.drop 0).take (min i.toNat ns.length - 0) = ns.take i.toNat
  rw [List.drop_zero, Nat.sub_zero, ← List.take_take, List.take_length]
end Hz
namespace Hz
open PySem PySem.Spec PyProof.Rows L2 RZ
/-- part of what is known bears a name from here on -/
theorem t_gen {α : Type} {L : Lg} {G : Hp → Prop} (X : α → Lg) (J : α → Prop) (y : α) (hJ : J y) (s : Sub L (X y)) (main : ∀ y, J y → Tr (X y) G) : Tr L G := (main y hJ).sub s
theorem fl_nil {α : Type} {b : Nat → Bool} {o : Nat → α} {n : Nat} : fl b o n = [] ↔ ∀ i, i < n → b i = false := by
  unfold fl
  rw [List.map_eq_nil_iff, List.filter_eq_nil_iff]
  constructor
  · intro h i hi
    exact Bool.eq_false_iff.mpr (h i (List.mem_range.mpr hi))
  · intro h i hi
    rw [h i (List.mem_range.mp hi)]; decide
/-- a comprehension's emptiness: all do -/
theorem fl_all_eq {α : Type} [Inhabited α] (ps : List α) (f : α → Bool) (o : Nat → Int) : decide (fl (fun t => !f (ps.getD t default)) o ps.length = []) = ps.all f := by
  rw [Bool.eq_iff_iff, decide_eq_true_eq, fl_nil, List.all_eq_true]
  constructor
  · intro h x hx
    obtain ⟨i, hi⟩ := List.mem_iff_getElem?.mp hx
    have := h i (List.getElem?_eq_some_iff.mp hi).1
    rw [List.getD_eq_getElem?_getD, hi] at this
    simpa using this
  · intro h i hi
    have := h ps[i] (List.getElem_mem hi)
    rw [List.getD_eq_getElem?_getD, List.getElem?_eq_getElem hi]
    simpa using this
theorem getD_of {α : Type} [Inhabited α] {ps : List α} {i : Nat} {x : α} (h : ps[i]? = some x) : ps.getD i default = x := by rw [List.getD_eq_getElem?_getD, h]; rfl
end Hz
namespace Hz
open PySem PySem.Spec PyProof.Rows L2 RZ
theorem Prs.pick {L : Lg} {xs : List V} {ps : List (Int × Int)} (h : Prs L xs ps) {i : Int} (h0 : 0 ≤ i) (h1 : i < ps.length) : ∃ T p, L2.atI xs i = some (.ref T) ∧ ps[i.toNat]? = some p ∧ p ∈ ps ∧ (T, .tup [.int p.1, .int p.2]) ∈ L := by
  have hl := h.len
  have hv : xs[i.toNat]? = some (xs[i.toNat]'(by omega)) := List.getElem?_eq_getElem (by omega)
  obtain ⟨T, p, e, e2, m⟩ := h.at hv
  rw [e] at hv
  have := atI_nat hv
  rw [Int.toNat_of_nonneg h0] at this
  exact ⟨T, p, this, e2, List.mem_of_getElem? e2, m⟩
end Hz
namespace Hz
open PySem PySem.Spec PyProof.Rows L2 RZ
/-- ns[i:], i may lie behind the end -/
theorem cutI_after {ns : List Int} {i : Int} (h0 : 0 ≤ i) : cutI ns (some i) none = ns.drop i.toNat := by
  unfold cutI
  have e : HT.sIx ns.length 0 (some i) = min i.toNat ns.length := by
    show (if i < 0 then _ else min i.toNat ns.length) = min i.toNat ns.length
    rw [if_neg (by omega)]
  rw [e]
  show (ns.drop (min i.toNat ns.length)).take (ns.length - min i.toNat ns.length) = ns.drop i.toNat
  rw [List.take_of_length_le (by rw [List.length_drop]; exact Nat.le_refl _)]
  by_cases c : i.toNat ≤ ns.length
  · rw [Nat.min_eq_left c]
  · rw [Nat.min_eq_right (by omega), List.drop_length, List.drop_of_length_le (by omega)]
end Hz
namespace Hz
open PySem PySem.Spec PyProof.Rows L2 RZ
/-! ### lists of lists of ints -/
def rwD (r : List Int) : PyData := .list (r.map PyData.int)
/-- xs are lists of ints -/
def Rws (L : Lg) (xs : List V) (rs : List (List Int)) : Prop := DtAll L xs (rs.map rwD)
theorem Dt.rw_inv {L : Lg} {x : V} {r : List Int} (h : Dt L x (rwD r)) : ∃ T, x = .ref T ∧ (T, .lst (r.map V.int)) ∈ L := by
  unfold rwD at h
  cases h with
  | lst m q =>
    rename_i a xs
    have : ∀ {xs : List V} {zs : List Int}, DtAll L xs (zs.map PyData.int) → xs = zs.map V.int := by
      intro xs
      induction xs with
      | nil => intro zs h; cases zs <;> first | rfl | cases h
      | cons x r ih =>
        intro zs h
        cases zs with
        | nil => cases h
        | cons z s =>
          cases h with
          | cons h1 h2 =>
            cases h1
            rw [ih h2]; rfl
    rw [this q] at m
    exact ⟨_, rfl, m⟩
theorem Rws.len {L : Lg} {xs : List V} {rs : List (List Int)} (h : Rws L xs rs) : xs.length = rs.length := by
  have := DtAll.len h
  rwa [List.length_map] at this
theorem Rws.at {L : Lg} {xs : List V} {rs : List (List Int)} (h : Rws L xs rs) {i : Nat} {v : V} (e : xs[i]? = some v) : ∃ T r, v = .ref T ∧ rs[i]? = some r ∧ (T, .lst (r.map V.int)) ∈ L := by
  obtain ⟨d, e1, hd⟩ := DtAll.get h e
  rw [List.getElem?_map] at e1
  cases e2 : rs[i]? with
  | none => rw [e2] at e1; cases e1
  | some r =>
    rw [e2] at e1
    cases e1
    obtain ⟨T, rfl, m⟩ := hd.rw_inv
    exact ⟨T, r, rfl, rfl, m⟩
theorem Rws.mono {L M : Lg} (s : ∀ p ∈ L, p ∈ M) {xs : List V} {rs : List (List Int)} (h : Rws L xs rs) : Rws M xs rs := DtAll.mono s h
theorem Rws.app {L : Lg} {xs ys : List V} {ps qs : List (List Int)} (h : Rws L xs ps) (h2 : Rws L ys qs) : Rws L (xs ++ ys) (ps ++ qs) := by
  unfold Rws
  rw [List.map_append]
  exact DtAll.app h h2
theorem Rws.one {L : Lg} {T : Addr} {r : List Int} (m : (T, .lst (r.map V.int)) ∈ L) : Rws L [.ref T] [r] := .cons (Dt.ints m) .nil
theorem Rws.snoc {L : Lg} {xs : List V} {rs : List (List Int)} {T : Addr} {r : List Int} (h : Rws L xs rs) (m : (T, .lst (r.map V.int)) ∈ L) : Rws L (xs ++ [.ref T]) (rs ++ [r]) := h.app (.one m)
theorem Rws.set {L : Lg} {xs : List V} {rs : List (List Int)} {T : Addr} {r : List Int} (i : Nat) (h : Rws L xs rs) (m : (T, .lst (r.map V.int)) ∈ L) : Rws L (xs.set i (.ref T)) (rs.set i r) := by
  unfold Rws
  rw [List.map_set]
  exact DtAll.set i h (Dt.ints m)
theorem Rws.pick {L : Lg} {xs : List V} {rs : List (List Int)} (h : Rws L xs rs) {i : Int} (h0 : 0 ≤ i) (h1 : i < rs.length) : ∃ T r, L2.atI xs i = some (.ref T) ∧ rs[i.toNat]? = some r ∧ r ∈ rs ∧ (T, .lst (r.map V.int)) ∈ L := by
  have hl := h.len
  have hv : xs[i.toNat]? = some (xs[i.toNat]'(by omega)) := List.getElem?_eq_getElem (by omega)
  obtain ⟨T, p, e, e2, m⟩ := h.at hv
  rw [e] at hv
  have := atI_nat hv
  rw [Int.toNat_of_nonneg h0] at this
  exact ⟨T, p, this, e2, List.mem_of_getElem? e2, m⟩
/-- a comprehension's emptiness, the other way -/
theorem fl_any_eq {α : Type} [Inhabited α] (ps : List α) (f : α → Bool) (o : Nat → Int) : decide (fl (fun t => f (ps.getD t default)) o ps.length = []) = !ps.any f := by
  have h := fl_all_eq ps (fun x => !f x) o
  simp only [Bool.not_not] at h
  rw [h, List.not_any_eq_all_not]
end Hz
namespace Hz
open PySem PySem.Spec PyProof.Rows L2 RZ
/-- a value by two ways, what follows is walked once -/
theorem t_ifV {α : Type} {L : Lg} {σ σ' : SS} {b : Bool} {ta tb : TE} {Q : VK} (S : α → V) (X : α → Lg) (J : α → Prop) (h1 : b = true → ∀ Q : VK, (∀ y, J y → ∀ M, Sub M (X y) → Tr M fun H => Q (S y) H) → Tr L fun H => ta σ H Q)
    (h2 : b = false → ∀ Q : VK, (∀ y, J y → ∀ M, Sub M (X y) → Tr M fun H => Q (S y) H) → Tr L fun H => tb σ' H Q) (k : ∀ y, J y → Tr (X y) fun H => Q (S y) H) : Tr L fun H => if b = true then ta σ H Q else tb σ' H Q :=
  t_ite (fun h => h1 h Q fun y j _ s => (k y j).sub s) fun h => h2 h Q fun y j _ s => (k y j).sub s
end Hz
namespace Hz
open PySem PySem.Spec PyProof.Rows L2 RZ
theorem Sub.keep : ∀ (N : Lg) {L M : Lg}, Sub L M → Sub (N ++ L) (N ++ M)
  | [], _, _, h => h
  | _ :: N, _, _, h => .take .head (Sub.keep N h)
end Hz

/-! Hz, part K: dicts by the ledger. -/
namespace Hz
open PySem PySem.Spec PyProof.Rows L2 RZ
theorem RoomG.u1 {k : Nat} {A : Around} (r : RoomG k A) : A.units + 1 < cLine := by have := r.rm.un; omega
/-- what an int key holds -/
def dv (kvs : List (Key × V)) (i : Int) : Option V := valV kvs (Sum.inl i)
theorem dv_nil (i : Int) : dv [] i = none := rfl
theorem dv_put (kvs : List (Key × V)) (k j : Int) (v : V) : dv (putK kvs (Sum.inl k) v) j = if j = k then some v else dv kvs j := by
  unfold dv
  rw [valV_put]
  by_cases c : j = k
  · rw [if_pos c, if_pos (by rw [c])]
  · rw [if_neg c, if_neg (fun e => c (by injection e))]
/-- the keys are few -/
structure Few (n : Nat) (kvs : List (Key × V)) : Prop where
  nd : (kvs.map (·.1)).Nodup
  rg : ∀ p ∈ kvs, ∃ i : Int, p.1 = Sum.inl i ∧ 0 ≤ i ∧ i < n
theorem Few.nil (n : Nat) : Few n [] := ⟨List.nodup_nil, fun _ h => nomatch h⟩
theorem few_ints : ∀ (B : Nat) (ks : List Int), ks.Nodup → (∀ k ∈ ks, 0 ≤ k ∧ k < B) → ks.length ≤ B
  | 0, [], _, _ => Nat.le_refl _
  | 0, k :: r, _, h => absurd (h k (.head _)) (by omega)
  | B + 1, ks, nd, h => by
    have a := few_ints B (ks.filter fun k => decide (k ≠ (B : Int))) (nd.filter _) fun k hk => by
      obtain ⟨h1, h2⟩ := List.mem_filter.mp hk
      have := h k h1
      have := of_decide_eq_true h2
      omega
    have b : ks.length ≤ (ks.filter fun k => decide (k ≠ (B : Int))).length + 1 := by
      clear a h
      induction ks with
      | nil => simp
      | cons k r ih =>
        have nr := List.nodup_cons.mp nd
        by_cases c : k = (B : Int)
        · have : (r.filter fun k => decide (k ≠ (B : Int))) = r := List.filter_eq_self.mpr fun x hx => decide_eq_true fun e => nr.1 (by rw [c, ← e]; exact hx)
          rw [List.filter_cons, if_neg (by rw [decide_eq_true_eq]; exact fun h => h c), this, List.length_cons]
          exact Nat.le_refl _
        · rw [List.filter_cons, if_pos (decide_eq_true c), List.length_cons, List.length_cons]
          have := ih nr.2
          omega
    omega
theorem Few.len {n : Nat} {kvs : List (Key × V)} (h : Few n kvs) : kvs.length ≤ n := by
  have key : ∀ {l : List (Key × V)}, (l.map (·.1)).Nodup → (∀ p ∈ l, ∃ i : Int, p.1 = Sum.inl i ∧ 0 ≤ i ∧ i < n) → ∃ ks : List Int, l.map (·.1) = ks.map Sum.inl ∧ ∀ k ∈ ks, 0 ≤ k ∧ k < n := fun {l} _ hr => by
    induction l with
    | nil => exact ⟨[], rfl, fun _ h => nomatch h⟩
    | cons p r ih =>
      rename_i hnd
      obtain ⟨i, e, b⟩ := hr p (.head _)
      obtain ⟨ks, e2, b2⟩ := ih (List.nodup_cons.mp hnd).2 fun q hq => hr q (.tail _ hq)
      refine ⟨i :: ks, by rw [List.map_cons, e, e2]; rfl, fun k hk => ?_⟩
      rcases List.mem_cons.mp hk with rfl | hk
      · exact b
      · exact b2 k hk
  obtain ⟨ks, e, b⟩ := key h.nd h.rg
  have nd := h.nd
  rw [e] at nd
  have nd2 : ks.Nodup := by
    refine (List.pairwise_map.mp nd).imp fun {a b} h e => h (by rw [e])
  have := few_ints n ks nd2 b
  have el : kvs.length = ks.length := by rw [← List.length_map (f := (·.1)) (as := kvs), e, List.length_map]
  omega
theorem Few.put {n : Nat} {kvs : List (Key × V)} (h : Few n kvs) {i : Int} (h0 : 0 ≤ i) (h1 : i < n) (v : V) : Few n (putK kvs (Sum.inl i) v) := by
  unfold putK
  split
  · refine ⟨?_, fun p hp => ?_⟩
    · rw [List.map_map]
      have : ((fun kv : Key × V => kv.1) ∘ fun kv : Key × V => if kv.1 = Sum.inl i then (kv.1, v) else kv) = fun kv => kv.1 := by
        funext kv
        show (if kv.1 = Sum.inl i then (kv.1, v) else kv).1 = kv.1
        split <;> rfl
      rw [this]
      exact h.nd
    · obtain ⟨q, hq, e⟩ := List.mem_map.mp hp
      obtain ⟨j, ej, bj⟩ := h.rg q hq
      refine ⟨j, ?_, bj⟩
      rw [← e]
      split
      · exact ej
      · exact ej
  · rename_i c
    refine ⟨?_, fun p hp => ?_⟩
    · rw [List.map_append, List.map_cons, List.map_nil]
      refine List.nodup_append.mpr ⟨h.nd, by simp, fun a ha b hb => ?_⟩
      rw [List.mem_singleton.mp hb]
      rintro rfl
      obtain ⟨q, hq, e⟩ := List.mem_map.mp ha
      exact c (List.any_eq_true.mpr ⟨q, hq, decide_eq_true e⟩)
    · rcases List.mem_append.mp hp with hp | hp
      · exact h.rg p hp
      · rw [List.mem_singleton.mp hp]; exact ⟨i, rfl, h0, h1⟩
/-! ### readings -/
def dIn (x y : V) (H : Hp) (Q : VK) : Prop := ∃ a o, x = .ref a ∧ DGet H a y o ∧ Q (.bl o.isSome) H
def dNotIn (x y : V) (H : Hp) (Q : VK) : Prop := ∃ a o, x = .ref a ∧ DGet H a y o ∧ Q (.bl (!o.isSome)) H
def dAt (x y : V) (H : Hp) (Q : VK) : Prop := ∃ a v, x = .ref a ∧ DGet H a y (some v) ∧ Q v H
def dGet1 (a : Addr) (y : V) (H : Hp) (Q : VK) : Prop := ∃ o, DGet H a y o ∧ Q (o.getD .non) H
def dPut (x y v : V) (H : Hp) (G : Hp → Prop) : Prop := ∃ a H4, x = .ref a ∧ DPut H a y v H4 ∧ G H4
section
variable {L R R' : Lg} {σ : SS} {Q : VK} {a b : Addr} {kvs : List (Key × V)} {tvs : List (List Key × V)} {td ty tv : TE} {D : Ends} {i j : Int} {v : V} {G : Hp → Prop}
theorem t_din (k : Tr L fun H => ty σ H fun y H1 => td σ H1 fun x H2 => dIn x y H2 Q) : Tr L fun H => tDIn ty td σ H Q := k
theorem t_dnin (k : Tr L fun H => ty σ H fun y H1 => td σ H1 fun x H2 => dNotIn x y H2 Q) : Tr L fun H => tDNotIn ty td σ H Q := k
theorem t_dix (k : Tr L fun H => td σ H fun x H1 => ty σ H1 fun y H2 => dAt x y H2 Q) : Tr L fun H => tDGet td ty σ H Q := k
theorem t_dg1 (k : Tr L fun H => td σ H fun x H1 => ∃ a, x = .ref a ∧ IsD H1 a ∧ ty σ H1 fun y H2 => dGet1 a y H2 Q) : Tr L fun H => tDGet1 td ty σ H Q := k
theorem t_dput (k : Tr L fun H => tv σ H fun v H1 => td σ H1 fun x H2 => ty σ H2 fun y H3 => dPut x y v H3 fun H4 => D.nx σ H4) : Tr L fun H => sDPut td ty tv D σ H := k
theorem t_isDk {G : Addr → Hp → Prop} (hp : Pick a (.dK kvs) L R) (k : Tr L (G a)) : Tr L fun H => ∃ a', V.ref a = .ref a' ∧ IsD H a' ∧ G a' H := fun H l => ⟨a, rfl, .inl ⟨_, .inl (l.get hp)⟩, k H l⟩
theorem t_dinK (hp : Pick a (.dK kvs) L R) (k : Tr L fun H => Q (.bl (dv kvs i).isSome) H) : Tr L fun H => dIn (.ref a) (.int i) H Q := fun H l => ⟨a, _, rfl, DGet.k (k := Sum.inl i) (l.get hp), k H l⟩
theorem t_dninK (hp : Pick a (.dK kvs) L R) (k : Tr L fun H => Q (.bl (!(dv kvs i).isSome)) H) : Tr L fun H => dNotIn (.ref a) (.int i) H Q := fun H l => ⟨a, _, rfl, DGet.k (k := Sum.inl i) (l.get hp), k H l⟩
theorem t_datK (hp : Pick a (.dK kvs) L R) (hv : dv kvs i = some v) (k : Tr L fun H => Q v H) : Tr L fun H => dAt (.ref a) (.int i) H Q := fun H l => ⟨a, v, rfl, by rw [← hv]; exact DGet.k (k := Sum.inl i) (l.get hp), k H l⟩
theorem t_dgetK (hp : Pick a (.dK kvs) L R) (k : Tr L fun H => Q ((dv kvs i).getD .non) H) : Tr L fun H => dGet1 a (.int i) H Q := fun H l => ⟨_, DGet.k (k := Sum.inl i) (l.get hp), k H l⟩
theorem t_dputK (hp : Pick a (.dK kvs) L R) (hz : kvs.length < sizeLine) (k : Tr ((a, .dK (putK kvs (Sum.inl i) v)) :: R) G) : Tr L fun H => dPut (.ref a) (.int i) v H G :=
  fun H l => ⟨a, _, rfl, DPut.k (k := Sum.inl i) (l.get hp) hz, k _ (l.pick hp).put⟩
/-- keys that are two ints -/
def dv2 (tvs : List (List Key × V)) (i j : Int) : Option V := valV tvs [Sum.inl i, Sum.inl j]
theorem t_dinT (hp : Pick a (.dT tvs) L R) (hq : (b, .tup [.int i, .int j]) ∈ L) (k : Tr L fun H => Q (.bl (dv2 tvs i j).isSome) H) : Tr L fun H => dIn (.ref a) (.ref b) H Q :=
  fun H l => ⟨a, _, rfl, DGet.t (k := [Sum.inl i, Sum.inl j]) (l.get hp) (l.has _ hq), k H l⟩
theorem t_dputT (hp : Pick a (.dT tvs) L R) (hq : (b, .tup [.int i, .int j]) ∈ R) (hz : tvs.length < sizeLine) (k : Tr ((a, .dT (putK tvs [Sum.inl i, Sum.inl j] v)) :: R) G) : Tr L fun H => dPut (.ref a) (.ref b) v H G :=
  fun H l => ⟨a, _, rfl, DPut.t (k := [Sum.inl i, Sum.inl j]) (l.get hp) ((l.pick hp).has _ (.tail _ hq)) hz, k _ (l.pick hp).put⟩
theorem t_dnewT (k : ∀ p, Tr ((p, .dT []) :: L) fun H => Q (.ref p) H) : Tr L fun H => tDNewT σ H Q := fun H l p hp => k p _ (l.new hp)
end
end Hz
namespace Hz
open PySem PySem.Spec PyProof.Rows L2 RZ
/-! ### dict comprehensions -/
section
variable {L M : Lg} {σ σ0 : SS} {K : PySem.W.Frag} {wi : TI} {g : TG} {tt : TT} {tk tv : TE} {vs : List Nat} {Q : VK}
/-- a pair is put into the new dict -/
def dcAdd (D : Addr) (N : Hp → Prop) (y z : V) (H : Hp) : Prop := ∃ kvs k, y = kV k ∧ H D = some (.dK kvs) ∧ kvs.length < sizeLine ∧ N (upd H D (.dK (putK kvs k z)))
def dcK (g : TG) (tt : TT) (tk tv : TE) (vs : List Nat) (σ : SS) (Q : VK) (J : It) (H1 : Hp) : Prop := ∀ D, H1 D = none → ∃ W : Nat → Nat → Hp → Prop, (∃ m, W 0 m (upd H1 D (.dK []))) ∧ ∀ i m H, W i m H →
  (J.stop i H ∧ Q (.ref D) H) ∨ (J.go i H ∧ ∃ Nx : Hp → Prop, (∀ H', Nx H' → ∃ m', m' < m ∧ W (i + 1) m' H') ∧ ∀ x H', J.yld i H x H' → g x (wipe σ vs) H' fun σ2 H2 => wipe σ2 vs = wipe σ vs ∧ tt σ2 H2 fun b H3 =>
    if b = true then tk σ2 H3 fun y H4 => tv σ2 H4 fun z H5 => dcAdd D Nx y z H5 else Nx H3)
theorem t_dc (k : Tr L fun H => wi σ H (dcK g tt tk tv vs σ Q)) : Tr L fun H => tDc wi g tt tk tv vs σ H Q := k
def dcNx (M : Lg) (I : Nat → List (Key × V) → Prop) (D : Addr) (i : Nat) (H : Hp) : Prop := ∃ kvs, I i kvs ∧ Led H ((D, .dK kvs) :: M)
theorem t_dcAdd {R : Lg} {I : Nat → List (Key × V) → Prop} {D : Addr} {i : Nat} {kvs : List (Key × V)} {k : Int} {v : V} (hp : Pick D (.dK kvs) L R) (hz : kvs.length < sizeLine) (hI : I i (putK kvs (Sum.inl k) v)) (hM : Sub R M) :
    Tr L fun H => dcAdd D (dcNx M I D i) (.int k) v H := fun H l => ⟨kvs, Sum.inl k, rfl, l.get hp, hz, _, hI, (l.pick hp).put.sub (.take .head hM)⟩
theorem t_dcK {J : It} {n : Nat} {val : Nat → V → Lg → Prop} {Src : Lg → Prop} (wk : Wk J n val Src) (hw : wipe σ vs = σ0) (M : Lg) (I : Nat → List (Key × V) → Prop) (hM : Sub L M) (h0 : I 0 []) (hsrc : ∀ x, Src (x :: M))
    (hs : ∀ D i kvs v L', i < n → I i kvs → val i v L' → Tr (L' ++ (D, .dK kvs) :: M) fun H => g v σ0 H fun σ2 H2 => wipe σ2 vs = σ0 ∧ tt σ2 H2 fun b H3 =>
      if b = true then tk σ2 H3 fun y H4 => tv σ2 H4 fun z H5 => dcAdd D (dcNx M I D (i + 1)) y z H5 else dcNx M I D (i + 1) H3)
    (hd : ∀ D kvs, I n kvs → Tr ((D, .dK kvs) :: M) fun H => Q (.ref D) H) : Tr L fun H => dcK g tt tk tv vs σ Q J H := by
  intro H l D hD
  refine ⟨fun i m H' => m = n - i ∧ i ≤ n ∧ dcNx M I D i H', ⟨n, by simp, Nat.zero_le _, [], h0, (l.new hD).sub (.take .head hM)⟩, ?_⟩
  rintro i m H' ⟨rfl, hi, kvs, iy, ly⟩
  by_cases h : i < n
  · refine .inr ⟨wk.go _ _ i (hsrc _) ly h, dcNx M I D (i + 1), fun H2 p => ⟨n - (i + 1), by omega, rfl, h, p⟩, fun v H2 yl => ?_⟩
    obtain ⟨L', hv, l'⟩ := wk.yld _ _ i v H2 (hsrc _) ly h yl
    rw [hw]
    exact hs D i kvs v L' h iy hv H2 l'
  · obtain rfl : i = n := by omega
    exact .inl ⟨wk.stop _ _ (hsrc _) ly, hd D kvs iy H' ly⟩
end
end Hz
namespace Hz
open PySem PySem.Spec PyProof.Rows L2 RZ
section
variable {X : Cx}
/-- name = {..} on one line, the name a local -/
theorem ps_setDc {i : Nat} {y : Str} {py : Pos} {kx vx tg iter : Expr} {ifs : List Expr} {scope : Scope} {own : List (Str × Nat)} {pos spos : Pos} {wi : TI} {g : TG} {tt : TT} {tk tv : TE} (hc : X.calm = true) (hN : X.N.Nodup) (hy : X.N[i]? = some y) (hyl : X.env.scope.names.lookup y = some .local)
    (hsw : swapsWith (.DictComp kx vx [⟨tg, iter, ifs, 0⟩] scope pos) (some (.Name y py)) spos.line X.env = pure true) (hi : PI X tg iter wi) (ok : BlkOk X.N X.env.scope scope own)
    (hg : ∀ (s : Shared) (H : Hp) (C : Addr) (cl : List (Str × Addr)) (fp : List Addr), PG (X.blk s H scope (compEnvC scope cl C X.env) fp) tg g) (ht : ∀ (s : Shared) (H : Hp) (C : Addr) (cl : List (Str × Addr)) (fp : List Addr), PTs (X.blk s H scope (compEnvC scope cl C X.env) fp) ifs tt)
    (hk : ∀ (s : Shared) (H : Hp) (C : Addr) (cl : List (Str × Addr)) (fp : List Addr), PE (X.blk s H scope (compEnvC scope cl C X.env) fp) kx tk)
    (he : ∀ (s : Shared) (H : Hp) (C : Addr) (cl : List (Str × Addr)) (fp : List Addr), PE (X.blk s H scope (compEnvC scope cl C X.env) fp) vx tv) (hs : ∀ x, foldedSetIterable iter X.env x = pure x := by intro _; rfl) :
    PS X (.Assign [.Name y py] (.DictComp kx vx [⟨tg, iter, ifs, 0⟩] scope pos) spos) (tAsg (tDc wi g tt tk tv (own.map (·.2))) (gName i)) := by
  refine ⟨fun pins s σ H D I h => ?_⟩
  rw [exec_Assign_Name_used _ _ _ _ hsw]
  refine wpAny_bind (wpAny_standAt (wpAny_bind ?_))
  show wpAny _ X.A (do let _ ← comprehension (.DictComp kx vx [⟨tg, iter, ifs, 0⟩] scope pos) scope X.env (firstIterPos [⟨tg, iter, ifs, 0⟩] pos) newDict false (eval iter X.env) (some (assign (.Name y py) X.env))) _ _ s
  have h : tDc wi g tt tk tv (own.map (·.2)) σ H (fun x H1 => gName i x σ H1 D.nx) := h
  refine wpAny_bind (thn (dc_core (Qf := fun _ s' => SP X pins D .next s') hc hN I hi ok hg ht hk he hs h fun L C s' m H' I' q hn f => ?_) fun _ s' hq => wpAny_pure (wpAny_pure hq))
  show wpAny _ _ (assign (.Name y py) X.env (.ref L)) _ _ _
  refine wpAny_assign_Name (store_ok2 (v := V.ref L) I' hN hy (.inl hyl) rfl (fun s2 I2 ⟨a, sb, ha⟩ => ?_) (.inr hyl))
  obtain ⟨f0, f1, f2, f3, f4, f5⟩ := f
  have haC : C ≠ a := by
    rcases ha with z | z
    · rw [z]; exact f1
    · exact fun e => f4 y a z e.symm
  refine ⟨m, hn.sameBut sb haC, fun h3 sb3 => ?_⟩
  exact ⟨_, H', I2.turned (t' := s2.toks) (fun b o hb e => (sb3.2 b hb).trans e) f0 f1 f3 f4 f5, q⟩
theorem sw_trueD {kx vx : Expr} {gs : List Comprehension} {scope : Scope} {pos py : Pos} {y : Str} {l : Nat} {env : Env} (hk : env.scope.kind = .function) (hy : env.scope.names.lookup y = some .local) (hl : (py.line == pos.line) = true)
    (ha : (scope.names.any fun (n, k) => n == y && (k == .local || k == .cell)) = false) : swapsWith (.DictComp kx vx gs scope pos) (some (.Name y py)) l env = pure true := by
  have ky : env.kindOf y = some .local := hy
  have hb : env.blockKind = .function := by unfold Env.blockKind; rw [hk]; rfl
  unfold swapsWith
  simp only [hb, ky, ha, Expr.pos, hl]
  rfl
end
end Hz

/-! Hz, part P: sorted of a list of tuples of two ints. -/
namespace Hz
open PySem PySem.Spec PyProof.Rows L2 RZ
/-- by the first, then by the second -/
def lexLe (x y : Int × Int) : Prop := x.1 < y.1 ∨ (x.1 = y.1 ∧ x.2 ≤ y.2)
section
variable {L R : Lg} {σ : SS} {Q : VK} {K : PySem.W.Frag} {a : Addr} {xs : List V} {ps : List (Int × Int)}
theorem Prs.mem {L : Lg} : ∀ {xs : List V} {ps : List (Int × Int)}, Prs L xs ps → ∀ x ∈ xs, ∃ (t : Addr) (p : Int × Int), x = V.ref t ∧ (t, HO.tup [.int p.1, .int p.2]) ∈ L := fun {xs ps} h x hx => by
  obtain ⟨i, hi⟩ := List.mem_iff_getElem?.mp hx
  obtain ⟨T, p, e, -, m⟩ := h.at hi
  exact ⟨T, p, e, m⟩
theorem prs_map {L : Lg} {H : Hp} (l : Led H L) {k : V → Int × Int} (hk : ∀ x t p, x = V.ref t → (t, HO.tup [.int p.1, .int p.2]) ∈ L → k x = p) : ∀ {xs : List V} {ps : List (Int × Int)}, Prs L xs ps → xs.map k = ps := fun {xs ps} h => by
  have hl := h.len
  refine List.ext_getElem? fun i => ?_
  rw [List.getElem?_map]
  by_cases c : i < xs.length
  · rw [List.getElem?_eq_getElem c]
    obtain ⟨T, p, e, e2, m⟩ := h.at (List.getElem?_eq_getElem c)
    rw [e2]
    show some (k xs[i]) = some p
    rw [hk _ T p e m]
  · rw [List.getElem?_eq_none (by omega), List.getElem?_eq_none (by omega)]; rfl
theorem prs_of {L : Lg} {k : V → Int × Int} : ∀ {ys : List V}, (∀ y ∈ ys, ∃ t, y = V.ref t ∧ (t, HO.tup [.int (k y).1, .int (k y).2]) ∈ L) → Prs L ys (ys.map k)
  | [], _ => .nil
  | y :: ys, h => by
    obtain ⟨t, e, m⟩ := h y (.head _)
    have ih := prs_of (L := L) (k := k) (ys := ys) fun z hz => h z (.tail _ hz)
    unfold Prs at ih ⊢
    rw [List.map_cons, List.map_cons]
    refine .cons ?_ ih
    generalize k y = p at m
    subst e
    exact .pr m
theorem t_sortP (hp : Pick a (.lst xs) L R) (hx : Prs L xs ps) (q : ∀ (ys : List V) (qs : List (Int × Int)) p, Prs L ys qs → qs.Perm ps → qs.Pairwise lexLe → Tr ((p, .lst ys) :: L) fun H => Q (.ref p) H) : Tr L fun H => rSortedPO K [.ref a] H Q := fun H l => by
  have uni : ∀ (t : Addr) (p p' : Int × Int), (t, HO.tup [.int p.1, .int p.2]) ∈ L → (t, HO.tup [.int p'.1, .int p'.2]) ∈ L → p = p' := fun t p p' h h' => by
    obtain ⟨_, r1⟩ := Pick.of_mem h
    obtain ⟨_, r2⟩ := Pick.of_mem h'
    have e := (l.get r1).symm.trans (l.get r2)
    injection e with e
    injection e with e
    injection e with e1 e
    injection e with e2 e
    injection e1 with e1
    injection e2 with e2
    exact Prod.ext e1 e2
  have ex : ∀ x : V, ∃ p : Int × Int, ∀ t p', x = V.ref t → (t, HO.tup [.int p'.1, .int p'.2]) ∈ L → p = p' := fun x => by
    by_cases c : ∃ (t : Addr) (p : Int × Int), x = V.ref t ∧ (t, HO.tup [.int p.1, .int p.2]) ∈ L
    · obtain ⟨t, p, e, m⟩ := c
      refine ⟨p, fun t' p' e' m' => ?_⟩
      rw [e] at e'
      injection e' with e'
      subst e'
      exact uni t p p' m m'
    · exact ⟨(0, 0), fun t p' e m => absurd ⟨t, p', e, m⟩ c⟩
  obtain ⟨k, hk⟩ := Classical.axiomOfChoice ex
  have hk : ∀ x t p, x = V.ref t → (t, HO.tup [.int p.1, .int p.2]) ∈ L → k x = p := fun x t p e m => hk x t p e m
  have al : ∀ x ∈ xs, ∃ t, x = V.ref t ∧ (t, HO.tup [.int (k x).1, .int (k x).2]) ∈ L := fun x hm => by
    obtain ⟨t, p, e, m⟩ := hx.mem x hm
    refine ⟨t, e, ?_⟩
    rw [hk x t p e m]
    exact m
  refine ⟨a, xs, k, rfl, sqL hp l, fun x hm => ?_, fun ys p h1 h2 hp' => ?_⟩
  · obtain ⟨t, e, m⟩ := al x hm
    obtain ⟨_, r1⟩ := Pick.of_mem m
    exact ⟨t, e, l.get r1⟩
  · refine q ys (ys.map k) p (prs_of fun y hy => al y (h2.perm.mem_iff.mp hy)) ?_ ?_ _ (l.new hp')
    · rw [← prs_map l hk hx]
      exact h2.perm.map k
    · refine List.pairwise_map.mpr (List.Pairwise.imp (fun {x y} h => ?_) h1)
      have := SrtO.lexB_no.mp h
      unfold lexLe
      omega
end
end Hz

/-! Hz, part Q: max and min of a tuple of two ints. -/
namespace Hz
open PySem PySem.Spec PyProof.Rows L2 RZ
def rMaxT2 (K : PySem.W.Frag) : List V → Hp → VK → Prop := fun vs H Q => ∃ (a : Addr) (i j : Int), vs = [V.ref a] ∧ SqT K H a [.int i, .int j] ∧ Q (.int (max i j)) H
def rMinT2 (K : PySem.W.Frag) : List V → Hp → VK → Prop := fun vs H Q => ∃ (a : Addr) (i j : Int), vs = [V.ref a] ∧ SqT K H a [.int i, .int j] ∧ Q (.int (min i j)) H
theorem dataLt_ints (i j : Int) : W.dataLt (.int i) (.int j) = decide (i < j) := by
  unfold W.dataLt
  simp [W.keyToks, PyProof.Rows.lexLt, PyProof.Rows.itemOrd]
  rfl
section
variable {X : Cx}
theorem cr_maxT2 (hc : X.calm = true) (hu : X.A.units + 64 < cLine) : CallR X (.builtin "max") (rMaxT2 X.K) := by
  intro pins s σ H vs us Q I r h
  obtain ⟨a, i, j, rfl, hs, q⟩ := h
  obtain ⟨its, rv, hl, _⟩ := I.tuple hs
  rw [Vals.ref1 r]
  obtain ⟨t, u, rfl⟩ := Vals.int2 rv
  refine PySem.W.max_tuple_data (x := .int i) (xs := [.int j]) (I.ok.hd hc) (show s.heap.IsTuple a _ from hl) (.cons (.int i t) (.cons (.int j u) .nil)) ⟨fun x hx y hy => ?_, fun x hx e => ?_⟩ ?_ fun k v h' tk bs hk hr hkp => ?_
  · simp only [List.mem_cons, List.not_mem_nil, or_false] at hx hy
    rcases hx with rfl | rfl <;> rcases hy with rfl | rfl <;> rfl
  · subst e
    simp at hx
  · simp [PyData.depthAll, PyData.depth]; omega
  · have e : W.maxD (.int i) [.int j] = .int (max i j) := by
      show (if W.dataLt (.int i) (.int j) then PyData.int j else .int i) = _
      rw [dataLt_ints]
      by_cases c : i < j
      · rw [if_pos (decide_eq_true c), Int.max_eq_right (by omega)]
      · rw [if_neg (by simpa using c), Int.max_eq_left (by omega)]
    rw [e] at hr
    cases hr with
    | int _ t' => exact ⟨.int _, H, I.kept hkp, ⟨_, rfl⟩, q⟩
theorem cr_minT2 (hc : X.calm = true) (hu : X.A.units + 64 < cLine) : CallR X (.builtin "min") (rMinT2 X.K) := by
  intro pins s σ H vs us Q I r h
  obtain ⟨a, i, j, rfl, hs, q⟩ := h
  obtain ⟨its, rv, hl, _⟩ := I.tuple hs
  rw [Vals.ref1 r]
  obtain ⟨t, u, rfl⟩ := Vals.int2 rv
  refine PySem.W.min_tuple_data (x := .int i) (xs := [.int j]) (I.ok.hd hc) (show s.heap.IsTuple a _ from hl) (.cons (.int i t) (.cons (.int j u) .nil)) ⟨fun x hx y hy => ?_, fun x hx e => ?_⟩ ?_ fun k v h' tk bs hk hr hkp => ?_
  · simp only [List.mem_cons, List.not_mem_nil, or_false] at hx hy
    rcases hx with rfl | rfl <;> rcases hy with rfl | rfl <;> rfl
  · subst e
    simp at hx
  · simp [PyData.depthAll, PyData.depth]; omega
  · have e : W.minD (.int i) [.int j] = .int (min i j) := by
      show (if W.dataLt (.int j) (.int i) then PyData.int j else .int i) = _
      rw [dataLt_ints]
      by_cases c : j < i
      · rw [if_pos (decide_eq_true c), Int.min_eq_right (by omega)]
      · rw [if_neg (by simpa using c), Int.min_eq_left (by omega)]
    rw [e] at hr
    cases hr with
    | int _ t' => exact ⟨.int _, H, I.kept hkp, ⟨_, rfl⟩, q⟩
end
section
variable {L R : Lg} {Q : VK} {K : PySem.W.Frag} {a : Addr} {i j : Int}
theorem t_maxT2 (hp : Pick a (.tup [.int i, .int j]) L R) (k : Tr L fun H => Q (.int (max i j)) H) : Tr L fun H => rMaxT2 K [.ref a] H Q := fun H l => ⟨a, i, j, rfl, sqT hp l, k H l⟩
theorem t_minT2 (hp : Pick a (.tup [.int i, .int j]) L R) (k : Tr L fun H => Q (.int (min i j)) H) : Tr L fun H => rMinT2 K [.ref a] H Q := fun H l => ⟨a, i, j, rfl, sqT hp l, k H l⟩
end
end Hz

namespace Hz
open PySem PySem.Spec PyProof.Rows L2 RZ
def topS (i : Nat) : Stmt := PySem.Challenge.pw_stickyheads_k46_whole_folds_bring_lines.main.body.getD i (.Pass ⟨0, 0, 0, 0⟩)
abbrev s_is_integer : Stmt := topS 9
theorem sc_is_integer : FnScope ["value"] ["value"] (defScope s_is_integer) := ⟨rfl, rfl, rfl, by decide +kernel, rfl, by decide +kernel, by decide +kernel⟩
abbrev s_is_outline : Stmt := topS 10
theorem sc_is_outline : FnScope ["value", "before", "depth"] ["value"] (defScope s_is_outline) := ⟨rfl, rfl, rfl, by decide +kernel, rfl, by decide +kernel, by decide +kernel⟩
abbrev s_check_outline : Stmt := topS 11
theorem sc_check_outline : FnScope ["outline"] ["outline"] (defScope s_check_outline) := ⟨rfl, rfl, rfl, by decide +kernel, rfl, by decide +kernel, by decide +kernel⟩
abbrev s_check_line : Stmt := topS 12
theorem sc_check_line : FnScope ["outline", "line"] ["outline", "line"] (defScope s_check_line) := ⟨rfl, rfl, rfl, by decide +kernel, rfl, by decide +kernel, by decide +kernel⟩
abbrev s_headings_of : Stmt := topS 13
theorem sc_headings_of : FnScope ["outline", "line", "found", "depth", "other"] ["outline", "line"] (defScope s_headings_of) := ⟨rfl, rfl, rfl, by decide +kernel, rfl, by decide +kernel, by decide +kernel⟩
abbrev s_last_of_section : Stmt := topS 14
theorem sc_last_of_section : FnScope ["outline", "line", "last"] ["outline", "line"] (defScope s_last_of_section) := ⟨rfl, rfl, rfl, by decide +kernel, rfl, by decide +kernel, by decide +kernel⟩
abbrev s_check_height : Stmt := topS 17
theorem sc_check_height : FnScope ["height"] ["height"] (defScope s_check_height) := ⟨rfl, rfl, rfl, by decide +kernel, rfl, by decide +kernel, by decide +kernel⟩
abbrev s_last_scroll : Stmt := topS 18
theorem sc_last_scroll : FnScope ["outline"] ["outline"] (defScope s_last_scroll) := ⟨rfl, rfl, rfl, by decide +kernel, rfl, by decide +kernel, by decide +kernel⟩
abbrev s_check_scroll : Stmt := topS 19
theorem sc_check_scroll : FnScope ["outline", "scroll"] ["outline", "scroll"] (defScope s_check_scroll) := ⟨rfl, rfl, rfl, by decide +kernel, rfl, by decide +kernel, by decide +kernel⟩
abbrev s_top_of : Stmt := topS 20
theorem sc_top_of : FnScope ["outline", "scroll", "line", "depth"] ["outline", "scroll"] (defScope s_top_of) := ⟨rfl, rfl, rfl, by decide +kernel, rfl, by decide +kernel, by decide +kernel⟩
abbrev s_view_of : Stmt := topS 21
theorem sc_view_of : FnScope ["outline", "height", "scroll", "top", "found", "pushed"] ["outline", "height", "scroll"] (defScope s_view_of) := ⟨rfl, rfl, rfl, by decide +kernel, rfl, by decide +kernel, by decide +kernel⟩
abbrev s_interval_for : Stmt := topS 22
theorem sc_interval_for : FnScope ["outline", "height", "line", "least", "greatest"] ["outline", "height", "line"] (defScope s_interval_for) := ⟨rfl, rfl, rfl, by decide +kernel, rfl, by decide +kernel, by decide +kernel⟩
abbrev s_check_arguments : Stmt := topS 23
theorem sc_check_arguments : FnScope ["outline", "height", "scroll"] ["outline", "height", "scroll"] (defScope s_check_arguments) := ⟨rfl, rfl, rfl, by decide +kernel, rfl, by decide +kernel, by decide +kernel⟩
abbrev s_view : Stmt := topS 24
theorem sc_view : FnScope ["outline", "height", "scroll"] ["outline", "height", "scroll"] (defScope s_view) := ⟨rfl, rfl, rfl, by decide +kernel, rfl, by decide +kernel, by decide +kernel⟩
abbrev s_scrolls_for_both : Stmt := topS 25
theorem sc_scrolls_for_both : FnScope ["outline", "height", "line", "other", "first", "second", "least", "greatest"] ["outline", "height", "line", "other"] (defScope s_scrolls_for_both) := ⟨rfl, rfl, rfl, by decide +kernel, rfl, by decide +kernel, by decide +kernel⟩
abbrev s_check_folds : Stmt := topS 27
theorem sc_check_folds : FnScope ["outline", "folds", "is_valid", "line", "following"] ["outline", "folds"] (defScope s_check_folds) := ⟨rfl, rfl, rfl, by decide +kernel, rfl, by decide +kernel, by decide +kernel⟩
abbrev s_left_by : Stmt := topS 28
theorem sc_left_by : FnScope ["outline", "folds", "is_folded", "line", "found"] ["outline", "folds"] (defScope s_left_by) := ⟨rfl, rfl, rfl, by decide +kernel, rfl, by decide +kernel, by decide +kernel⟩
abbrev s_lines_left : Stmt := topS 29
theorem sc_lines_left : FnScope ["outline", "folds"] ["outline", "folds"] (defScope s_lines_left) := ⟨rfl, rfl, rfl, by decide +kernel, rfl, by decide +kernel, by decide +kernel⟩
abbrev s_folded_outline : Stmt := topS 30
theorem sc_folded_outline : FnScope ["outline", "folds", "line"] ["outline", "folds"] (defScope s_folded_outline) := ⟨rfl, rfl, rfl, by decide +kernel, rfl, by decide +kernel, by decide +kernel⟩
abbrev s_sections_between : Stmt := topS 31
theorem sc_sections_between : FnScope ["outline", "first", "last", "found", "line", "end"] ["outline", "first", "last"] (defScope s_sections_between) := ⟨rfl, rfl, rfl, by decide +kernel, rfl, by decide +kernel, by decide +kernel⟩
abbrev s_folds_to_show : Stmt := topS 32
theorem sc_folds_to_show : FnScope ["outline", "height", "line", "other", "first", "last", "missing", "folds", "hidden", "folded"] ["outline", "height", "line", "other"] (defScope s_folds_to_show) := ⟨rfl, rfl, rfl, by decide +kernel, rfl, by decide +kernel, by decide +kernel⟩
abbrev s_law_bag : Stmt := topS 34
theorem sc_law_bag : FnScope ["cell", "turn", "size"] ["cell", "turn"] (defScope s_law_bag) := ⟨rfl, rfl, rfl, by decide +kernel, rfl, by decide +kernel, by decide +kernel⟩
abbrev s_law_draw : Stmt := topS 35
theorem sc_law_draw : FnScope ["bag", "many", "found", "mixed"] ["bag", "many"] (defScope s_law_draw) := ⟨rfl, rfl, rfl, by decide +kernel, rfl, by decide +kernel, by decide +kernel⟩
abbrev s_law_cells : Stmt := topS 36
theorem sc_law_cells : FnScope ["script"] ["script"] (defScope s_law_cells) := ⟨rfl, rfl, rfl, by decide +kernel, rfl, by decide +kernel, by decide +kernel⟩
abbrev s_law_rising : Stmt := topS 37
theorem sc_law_rising : FnScope ["bag", "most", "style", "many", "found", "turn", "top", "some"] ["bag", "most"] (defScope s_law_rising) := ⟨rfl, rfl, rfl, by decide +kernel, rfl, by decide +kernel, by decide +kernel⟩
abbrev s_law_sized : Stmt := topS 38
theorem sc_law_sized : FnScope ["script", "bag", "small", "great"] ["script", "bag", "small", "great"] (defScope s_law_sized) := ⟨rfl, rfl, rfl, by decide +kernel, rfl, by decide +kernel, by decide +kernel⟩
abbrev s_law_above : Stmt := topS 39
theorem sc_law_above : FnScope ["depths", "spot", "found", "wanted", "one"] ["depths", "spot"] (defScope s_law_above) := ⟨rfl, rfl, rfl, by decide +kernel, rfl, by decide +kernel, by decide +kernel⟩
abbrev s_law_both : Stmt := topS 40
theorem sc_law_both : FnScope ["depths", "tall", "marks", "pair", "left"] ["depths", "tall", "marks", "pair"] (defScope s_law_both) := ⟨rfl, rfl, rfl, by decide +kernel, rfl, by decide +kernel, by decide +kernel⟩
abbrev s_law_pair_right : Stmt := topS 41
theorem sc_law_pair_right : FnScope ["bag", "depths", "tall", "pair", "marks", "after", "able", "spot", "both", "left", "rows", "one"] ["bag", "depths", "tall", "pair"] (defScope s_law_pair_right) := ⟨rfl, rfl, rfl, by decide +kernel, rfl, by decide +kernel, by decide +kernel⟩
abbrev s_law_right : Stmt := topS 42
theorem sc_law_right : FnScope ["script", "bag", "depths", "turn", "pair", "tall"] ["script", "bag"] (defScope s_law_right) := ⟨rfl, rfl, rfl, by decide +kernel, rfl, by decide +kernel, by decide +kernel⟩
abbrev s_law : Stmt := topS 43
theorem sc_law : FnScope ["script", "k", "cell"] ["script"] (defScope s_law) := ⟨rfl, rfl, rfl, by decide +kernel, rfl, by decide +kernel, by decide +kernel⟩
/-! the steps -/
local macro_rules | `(tactic| walk_at "pk") => `(tactic| first | exact Pick.head | (apply Pick.tail; walk_at "pk") | (apply Pick.app; walk_at "pk") | assumption)
local macro_rules | `(tactic| walk_at "mb") => `(tactic| first | assumption | exact List.mem_cons_self | (apply List.mem_cons_of_mem; walk_at "mb") | (apply List.mem_append_right; walk_at "mb") | (exact Pick.mem (by assumption)))
local macro_rules | `(tactic| walk_at "sa") => `(tactic| first | exact SetAt.zero | (apply SetAt.succ; walk_at "sa"))
local macro_rules | `(tactic| walk_at "ga") => `(tactic| first | exact GetAt.zero | (apply GetAt.succ; walk_at "ga"))
local macro_rules | `(tactic| walk_at "sb") => `(tactic| first | exact Sub.refl | ((fail_if_success apply Sub.take); first | (apply Sub.keep; walk_at "sb") | (apply Sub.drop; walk_at "sb") | (apply Sub.app; walk_at "sb")) | (apply Sub.take; (walk_at "pk"); (walk_at "sb")))
local macro_rules | `(tactic| walk_at "pre") => `(tactic| first | exact Pre.nil | (apply Pre.cons; walk_at "pre") | (apply Pre.app; walk_at "pre"))
local macro_rules | `(tactic| walk_at "ty") => `(tactic| first | assumption | exact HasTy.non | exact HasTy.bl _ | exact HasTy.int _ | exact HasTy.str _ | (apply HasTy.lst; walk_at "mb") | (apply HasTy.tup; walk_at "mb") | (apply HasTy.dct; walk_at "mb"))
local macro_rules | `(tactic| walk_at "hx") => `(tactic| first
  | ((with_reducible refine' t_is ?ty ?mem ?_); (case ty => walk_at "ty"); (case mem => decide)))
local macro_rules | `(tactic| walk_at "sz") => `(tactic| first | (with_unfolding_all decide) | (rw [sizeLine_eq]; omega) | (simp only [sizeLine_eq, List.length_append, List.length_map, List.length_cons, List.length_nil, List.length_replicate, List.length_take, List.length_drop, List.length_reverse]; omega))
local macro_rules | `(tactic| walk_at "hz") => `(tactic| first
  | (with_reducible refine t_seq ?_)
  | (with_reducible refine t_asg ?_)
  | (with_reducible refine t_whBT ?_) | (with_reducible refine t_whBF ?_) | (with_reducible refine t_nxP ?_) | (with_reducible refine t_nxW ?_) | (with_reducible refine t_ctP ?_) | (with_reducible refine t_ctW ?_)
  | ((with_reducible refine' t_varA ?ga ?_); (case ga => walk_at "ga"))
  | (with_reducible refine t_c ?_)
  | ((with_reducible refine' t_name ?sa ?_); (case sa => walk_at "sa"))
  | (with_reducible refine t_op ?_)
  | (with_reducible refine t_rI0 ?_)
  | (with_reducible refine t_rU ?_)
  | (with_reducible refine t_eqI ?_)
  | (with_reducible refine t_neI ?_)
  | (with_reducible refine t_cons ?_)
  | (with_reducible refine t_nil ?_)
  | ((with_reducible refine t_dnewK ?_); intro)
  | (with_reducible refine t_callS ?_) | (with_reducible refine t_callGK ?_)
  | (with_reducible refine t_CB ?_)
  | (with_reducible refine t_if ?_)
  | (with_reducible refine t_test ?_)
  | (with_reducible refine t_bl ?_)
  | (with_reducible refine t_iteT ?_)
  | (with_reducible refine t_iteF ?_)
  | (with_reducible refine t_lst ?_)
  | (with_reducible refine t_tup ?_)
  | ((with_reducible refine t_newL ?sz ?_); (case sz => walk_at "sz"); intro)
  | ((with_reducible refine t_newT ?sz ?_); (case sz => walk_at "sz"); intro)
  | (with_reducible refine t_un ?_)
  | (with_reducible refine t_B ?_)
  | (with_reducible refine t_and ?_)
  | (with_reducible refine t_or ?_)
  | (with_reducible refine t_not ?_)
  | (with_reducible refine t_andV ?_)
  | (with_reducible refine t_orV ?_)
  | (with_reducible refine t_notV ?_)
  | (with_reducible refine t_ifE ?_)
  | (with_reducible refine t_chain ?_)
  | (with_reducible refine t_ret ?_)
  | (with_reducible refine t_retN ?_)
  | (with_reducible refine t_drop ?_)
  | (with_reducible refine t_for ?_)
  | (with_reducible refine t_lc ?_)
  | (with_reducible refine t_next ?_)
  | (with_reducible refine t_BM ?_)
  | (with_reducible refine t_BM0 ?_)
  | ((with_reducible refine' t_tyL ?pk ?_); (case pk => walk_at "pk"))
  | (with_reducible refine t_tyS ?_)
  | ((with_reducible refine' t_ixI ?pk ?sd ?sd2 ?_); (case pk => walk_at "pk"); (case sd => omega); (case sd2 => omega))
  | ((with_reducible refine' t_ixL ?pk ?at_ ?_); (case pk => walk_at "pk"); (case at_ => walk_at "at"))
  | ((with_reducible refine' t_ixT ?pk ?at_ ?_); (case pk => walk_at "pk"); (case at_ => walk_at "at"))
  | ((with_reducible refine' t_appI ?pk ?sz ?_); (case pk => walk_at "pk"); (case sz => walk_at "sz"))
  | ((with_reducible refine' t_append ?pk ?sz ?_); (case pk => walk_at "pk"); (case sz => walk_at "sz"))
  | ((with_reducible refine' t_reverse ?pk ?_); (case pk => walk_at "pk"))
  | ((with_reducible refine' t_extend ?pk ?pk2 ?sz ?_); (case pk => walk_at "pk"); (case pk2 => walk_at "pk"); (case sz => walk_at "sz"))
  | (with_reducible refine t_slice ?_)
  | (with_reducible refine t_noPart ?_)
  | (with_reducible refine t_part ?_)
  | (with_reducible refine t_int ?_)
  | ((with_reducible refine' t_slI ?pk ?_); (case pk => walk_at "pk"); intro)
  | ((with_reducible refine' t_slL ?pk ?_); (case pk => walk_at "pk"); intro)
  | ((with_reducible refine' t_catI ?pk ?pk2 ?sz ?_); (case pk => walk_at "pk"); (case pk2 => walk_at "pk"); (case sz => walk_at "sz"); intro)
  | ((with_reducible refine' t_cat ?pk ?pk2 ?sz ?_); (case pk => walk_at "pk"); (case pk2 => walk_at "pk"); (case sz => walk_at "sz"); intro)
  | ((with_reducible refine' t_augA ?ga ?_); (case ga => walk_at "ga"))
  | (with_reducible refine t_ipI ?_)
  | (with_reducible refine t_par ?_)
  | (with_reducible refine t_two ?_)
  | (with_reducible refine t_sub ?_) | (with_reducible refine t_gSl ?_)
  | ((with_reducible refine' t_setAll ?pk ?pk2 ?sz ?_); (case pk => walk_at "pk"); (case pk2 => walk_at "pk"); (case sz => walk_at "sz"))
  | ((with_reducible refine' t_tupG ?pk ?n ?_); (case pk => walk_at "pk"); (case n => rfl))
  | ((with_reducible refine' t_lstG ?pk ?n ?_); (case pk => walk_at "pk"); (case n => rfl))
  | (with_reducible refine t_consG ?_)
  | (with_reducible refine t_nilG ?_)
  | (with_reducible refine t_isN ?_)
  | (with_reducible refine t_notN ?_)
  | (with_reducible refine t_eqB ?_)
  | (with_reducible refine t_eqS ?_)
  | (with_reducible refine t_neB ?_)
  | (with_reducible refine t_neS ?_)
  | (with_reducible refine t_iL ?_) | (with_reducible refine t_iT ?_) | (with_reducible refine t_iR1 ?_) | (with_reducible refine t_iR2 ?_) | (with_reducible refine t_iR3 ?_)
  | (with_reducible refine t_iZA ?_) | (with_reducible refine t_iE ?_) | (with_reducible refine t_iZ ?_) | (with_reducible refine t_iS ?_)
  | ((with_reducible refine' t_itL ?pk ?_); (case pk => walk_at "pk"))
  | ((with_reducible refine' t_itT ?pk ?_); (case pk => walk_at "pk"))
  | ((with_reducible refine' t_itE ?pk ?_); (case pk => walk_at "pk"))
  | ((with_reducible refine' t_itZ ?pk ?pk2 ?_); (case pk => walk_at "pk"); (case pk2 => walk_at "pk"))
  | ((with_reducible refine' t_itZL ?pk ?pk2 ?_); (case pk => walk_at "pk"); (case pk2 => walk_at "pk"))
  | (with_reducible refine t_itS ?_)
  | ((with_reducible refine t_wiped ?w ?_); (case w => rfl))
  | (with_reducible refine t_yes ?_)
  | ((with_reducible refine' t_rep ?pk ?sd ?sd2 ?sz ?_); (case pk => walk_at "pk"); (case sd => decide); (case sd2 => decide); (case sz => walk_at "sz"); intro)
  | ((with_reducible refine' t_lenI ?pk ?_); (case pk => walk_at "pk"))
  | ((with_reducible refine' t_lenL ?pk ?_); (case pk => walk_at "pk"))
  | ((with_reducible refine' t_lenT ?pk ?_); (case pk => walk_at "pk"))
  | ((with_reducible refine t_rI ?sd ?_); (case sd => walk_at "sd"))
  | (with_reducible refine t_max2 ?_) | (with_reducible refine t_min2 ?_)
  | (with_reducible refine t_intI ?_) | (with_reducible refine t_intB ?_)
  | ((with_reducible refine t_itR1 ?sd ?sd2 ?_); (case sd => walk_at "sd"); (case sd2 => walk_at "sd"))
  | ((with_reducible refine t_itR2 ?sd ?_); (case sd => walk_at "sd"))
  | (with_reducible refine t_lstRg ?_) | (with_reducible refine t_rg1 ?_) | (with_reducible refine t_rg2 ?_) | (with_reducible refine t_int2 ?_)
  | ((with_reducible refine t_rgI ?sd ?_); (case sd => walk_at "sd"); intro)
  | ((with_reducible refine t_newRg ?sd ?_); (case sd => walk_at "sd"); intro)
  | (with_reducible refine t_revL ?_)
  | ((with_reducible refine' t_revI ?pk ?_); (case pk => walk_at "pk"); intro)
  | ((with_reducible refine' t_newRev ?pk ?_); (case pk => walk_at "pk"); intro)
  | (with_reducible refine t_isB ?_) | (with_reducible refine t_notB ?_)
  | ((with_reducible refine' t_listL ?pk ?_); (case pk => walk_at "pk"); intro)
  | ((with_reducible refine' t_listT ?pk ?_); (case pk => walk_at "pk"); intro)
  | ((with_reducible refine' t_tupleL ?pk ?_); (case pk => walk_at "pk"); intro)
  | ((with_reducible refine' t_inI ?pk ?_); (case pk => walk_at "pk"))
  | ((with_reducible refine' t_notInI ?pk ?_); (case pk => walk_at "pk"))
  | ((with_reducible refine t_ifT ?h ?_); (case h => first | decide | rfl))
  | ((with_reducible refine t_ifF ?h ?_); (case h => first | decide | rfl))
  | (with_reducible refine t_sortSet ?_) | (with_reducible refine t_lenSetV ?_)
  | (with_reducible refine t_ifR ?_) | (with_reducible refine t_ifNR ?_)
  | ((with_reducible refine t_ifDT ?h ?_); (case h => omega)) | ((with_reducible refine t_ifDF ?h ?_); (case h => omega))
  | ((with_reducible refine t_ifNT ?h ?_); (case h => omega)) | ((with_reducible refine t_ifNF ?h ?_); (case h => omega)))
local macro_rules | `(tactic| walk_at "sd") => `(tactic| first | omega | assumption | (exact .inl (by omega)) | (exact .inr (.inl (by omega))) | (refine And.intro ?_ ?_ <;> omega) | decide | (exact ⟨by omega, by omega, by omega, by omega⟩) | (exact RgOk.of_le (by omega) (by omega) (by omega) (by omega)))
local macro_rules | `(tactic| walk_at "at") => `(tactic| first | rfl | exact atI_nat (by assumption) | exact atI_nat rfl)
local macro_rules | `(tactic| walk_at "hz") => `(tactic| first
  | (with_reducible refine t_dc ?_) | (with_reducible refine t_din ?_) | (with_reducible refine t_dnin ?_) | (with_reducible refine t_dix ?_) | (with_reducible refine t_dg1 ?_) | (with_reducible refine t_dput ?_)
  | ((with_reducible refine' t_isDk ?pk ?_); (case pk => walk_at "pk"))
  | ((with_reducible refine' t_dinK ?pk ?_); (case pk => walk_at "pk"))
  | ((with_reducible refine' t_dninK ?pk ?_); (case pk => walk_at "pk"))
  | ((with_reducible refine' t_dgetK ?pk ?_); (case pk => walk_at "pk"))
  | ((with_reducible refine' t_dputK ?pk ?sz ?_); (case pk => walk_at "pk"); (case sz => walk_at "sz"))
  | ((with_reducible refine t_dnewT ?_); intro))
section
variable {P : Program} {w : World} {K : PySem.W.Frag} {mg : Str → Option Value} {base : Heap}
/-! ### is_integer, is_outline, check_outline -/
def isInt : V → Bool
  | .int _ => true
  | _ => false
def chainV : Int → List V → Bool
  | _, [] => true
  | b, .int d :: r => decide (0 ≤ d) && decide (d ≤ b + 1) && chainV d r
  | _, _ :: _ => false
/-- the list is an outline -/
def outV (xs : List V) : Bool := decide (1 ≤ xs.length) && decide (xs.length ≤ 200) && chainV (-1) xs
def sp_is_integer : Sp := fun vs H Q _ => ∃ (x : V) (T : String) (L : Lg), vs = [x] ∧ Led H L ∧ HasTy L x T ∧ Tr L (fun H => Q (.bl (isInt x)) H)
theorem use_is_integer {L : Lg} {Q : VK} {E : XK} {x : V} {T : String} (h : HasTy L x T) (k : Tr L fun H => Q (.bl (isInt x)) H) : Tr L fun H => sp_is_integer [x] H Q E := fun H l => ⟨x, T, L, rfl, l, h, k⟩
theorem isInt_isB {L : Lg} {x : V} {T : String} (h : HasTy L x T) : (isB T "int" && !isB T "bool") = isInt x := by cases h <;> rfl
theorem ok_is_integer (D : Df K mg "is_integer" s_is_integer) (B : Blt mg) : Ok P w K mg base CX0 1 "is_integer" ["value"] sp_is_integer := by
  obtain ⟨f, fd, hm, F⟩ := D
  refine ⟨f, fd, hm, F.kp, F.binds (fun _ _ _ _ _ _ us hl => match us, hl with | [_], _ => rfl), FunOkG F sc_is_integer (fun vs H Q E h => ?_) (fun cdv A outer s H vs Q E hr h => ?_), F.lk⟩
  · obtain ⟨x, T, L, rfl, _⟩ := h; rfl
  · obtain ⟨x, T, L, rfl, l, ht, q⟩ := h
    refine ⟨_, PSs.nox (pss_one (ps_ret (pe_and (pe_callB c_is rfl B.isinstance_ boot_isinstance (pa_cons (pv 0) (pa_cons (pe_ty B.int_ boot_int) pa_nil))) (pe_one (pe_not (pe_callB c_is rfl B.isinstance_ boot_isinstance (pa_cons (pv 0) (pa_cons (pe_ty B.bool_ boot_bool) pa_nil)))))))), ?_⟩
    rw [show L2.start ["value"] [x] = [some x] from rfl]
    refine Tr.of (L := L) ?_ l
    repeat walk_at "hz"
    refine t_is ht (by decide) ?_
    repeat walk_at "hz"
    have e := isInt_isB ht
    refine t_ite (fun h1 => ?_) fun h1 => ?_
    · repeat walk_at "hz"
      refine t_is ht (by decide) ?_
      repeat walk_at "hz"
      rw [h1, Bool.true_and] at e
      rw [e]
      exact q
    · repeat walk_at "hz"
      rw [h1, Bool.false_and] at e
      rw [e]
      exact q
/-- what is_outline answers -/
def OutIs (L : Lg) (x : V) (b : Bool) : Prop := (∃ a xs, x = .ref a ∧ (a, .lst xs) ∈ L ∧ (∀ y ∈ xs, ∃ T, HasTy L y T) ∧ b = outV xs) ∨ (∃ T, HasTy L x T ∧ T ≠ "list" ∧ b = false)
def sp_is_outline : Sp := fun vs H Q _ => ∃ (x : V) (b : Bool) (L : Lg), vs = [x] ∧ Led H L ∧ OutIs L x b ∧ Tr L (fun H => Q (.bl b) H)
theorem use_is_outline {L : Lg} {Q : VK} {E : XK} {x : V} {b : Bool} (h : OutIs L x b) (k : Tr L fun H => Q (.bl b) H) : Tr L fun H => sp_is_outline [x] H Q E := fun H l => ⟨x, b, L, rfl, l, h, k⟩
theorem chainV_not {b : Int} {v : V} {r : List V} (h : isInt v = false) : chainV b (v :: r) = false := by
  cases v <;> first | rfl | cases h
theorem drop_cons {α : Type} {xs : List α} {i : Nat} {v : α} (h : xs[i]? = some v) : xs.drop i = v :: xs.drop (i + 1) := by
  obtain ⟨h1, h2⟩ := List.getElem?_eq_some_iff.mp h
  rw [List.drop_eq_getElem_cons h1, h2]
theorem isB_list {T : String} (h : T ∈ tyNames) (n : T ≠ "list") : isB T "list" = false := by
  unfold isB
  simp [n]
theorem ok_is_outline (D : Df K mg "is_outline" s_is_outline) (B : Blt mg) (g_MAX_LINES : GV mg "MAX_LINES" (.int 200)) (k_is_integer : Ok P w K mg base CX0 1 "is_integer" ["value"] sp_is_integer) :
    Ok P w K mg base CX0 2 "is_outline" ["value"] sp_is_outline := by
  obtain ⟨f, fd, hm, F⟩ := D
  refine ⟨f, fd, hm, F.kp, F.binds (fun _ _ _ _ _ _ us hl => match us, hl with | [_], _ => rfl), FunOkG F sc_is_outline (fun vs H Q E h => ?_) (fun cdv A outer s H vs Q E hr h => ?_), F.lk⟩
  · obtain ⟨x, T, L, rfl, _⟩ := h; rfl
  · obtain ⟨x, b, L, rfl, l, ho, q⟩ := h
    refine ⟨_, PSs.nox (pss_cons (ps_if (PW.pt (pw_or (pt_not (pt_val (pe_callB c_is rfl B.isinstance_ boot_isinstance (pa_cons (pv 0) (pa_cons (pe_ty B.list_ boot_list) pa_nil))))) (pw_or1 (pt_not (pt_chain op_le op_le pe_int (pe_callB c_len rfl B.len_ boot_len (pa_cons (pv 0) pa_nil)) (pe_gv g_MAX_LINES)))))) (pss_one (ps_ret pe_bl))
        pss_nil)
      (pss_cons (ps_set (i := 1) sc_is_outline.nd rfl (.inl rfl) (pe_un un_neg pe_int))
      (pss_cons (ps_for PassesOwn.never rfl (pi_list (pv 0)) (pg_name (i := 2) sc_is_outline.nd rfl (.inl rfl))
        (pss_cons (ps_if (PW.pt (pw_or (pt_not (pt_val (pe_callG k_is_integer (hr.mono (by omega)) pas0 (pa_cons (pv 2) pa_nil)))) (pw_or1 (pt_not (pt_chain op_le op_le pe_int (pv 2) (pe_op op_add (pv 1) pe_int)))))) (pss_one (ps_ret pe_bl))
        pss_nil)
      (pss_one (ps_set (i := 1) sc_is_outline.nd rfl (.inl rfl) (pv 2)))))
      (pss_one (ps_ret pe_bl))))), ?_⟩
    rw [show L2.start ["value", "before", "depth"] [x] = [some x, none, none] from rfl]
    refine Tr.of (L := L) ?_ l
    repeat walk_at "hz"
    rcases ho with ⟨a, xs, rfl, hm, hty, rfl⟩ | ⟨T, ht, hn, rfl⟩
    · refine t_is (.lst hm) (by decide) ?_
      obtain ⟨R, hp⟩ := Pick.of_mem hm
      repeat walk_at "hz"
      refine t_iteD (fun h1 => ?_) fun h1 => ?_
      · repeat walk_at "hz"
        refine t_iteND (fun h2 => ?_) fun h2 => ?_
        · repeat walk_at "hz"
          rw [show outV xs = false by unfold outV; rw [show decide (xs.length ≤ 200) = false from decide_eq_false (by omega), Bool.and_false, Bool.false_and]] at q
          exact q
        · repeat walk_at "hz"
          refine t_forK wk_list (fun i y => [some (.ref a), some (.int y.1), y.2]) (fun _ _ => L) (fun i y => chainV (-1) xs = chainV y.1 (xs.drop i)) ⟨((-1 : Int), none), rfl, rfl, .refl⟩ (fun _ _ _ => ⟨R, hp⟩) ?_ ?_
          · rintro i ⟨b, d⟩ v L' hi hc ⟨hv, rfl⟩
            dsimp only at hc ⊢
            rw [drop_cons hv] at hc
            obtain ⟨T, ht⟩ := hty v (List.mem_of_getElem? hv)
            show Tr L _
            repeat walk_at "hz"
            refine use_is_integer ht ?_
            repeat walk_at "hz"
            refine t_ite (fun h3 => ?_) fun h3 => ?_
            · repeat walk_at "hz"
              rw [show outV xs = false by unfold outV; rw [hc, chainV_not (by simpa using h3), Bool.and_false]] at q
              exact q
            · have h4 : isInt v = true := by simpa using h3
              obtain ⟨m, rfl⟩ : ∃ m, v = .int m := by
                cases v <;> first | exact ⟨_, rfl⟩ | cases h4
              repeat walk_at "hz"
              refine t_iteD (fun h5 => ?_) fun h5 => ?_
              · repeat walk_at "hz"
                refine t_iteND (fun h6 => ?_) fun h6 => ?_
                · repeat walk_at "hz"
                  rw [show outV xs = false by unfold outV; rw [hc, chainV, decide_eq_false h6, Bool.and_false, Bool.false_and, Bool.and_false]] at q
                  exact q
                · repeat walk_at "hz"
                  refine t_pst (m, some (V.int m)) ?_ (by rfl) (by walk_at "sb")
                  rw [hc, chainV, decide_eq_true h5, decide_eq_true h6]; rfl
              · repeat walk_at "hz"
                rw [show outV xs = false by unfold outV; rw [hc, chainV, decide_eq_false h5, Bool.false_and, Bool.false_and, Bool.and_false]] at q
                exact q
          · rintro ⟨b, d⟩ hc
            repeat walk_at "hz"
            rw [List.drop_length] at hc
            rw [show outV xs = true by unfold outV; rw [hc, decide_eq_true (by omega), decide_eq_true (by omega)]; rfl] at q
            exact q
      · repeat walk_at "hz"
        rw [show outV xs = false by unfold outV; rw [show decide (1 ≤ xs.length) = false from decide_eq_false (by omega), Bool.false_and, Bool.false_and]] at q
        exact q
    · refine t_is ht (by decide) ?_
      rw [isB_list ht.name hn]
      repeat walk_at "hz"
      exact q
theorem chainV_ints : ∀ (b : Int) (ns : List Int), chainV b (ns.map V.int) = true ↔ chainI b ns
  | _, [] => by simp [chainV, chainI]
  | b, d :: r => by
    show (decide (0 ≤ d) && decide (d ≤ b + 1) && chainV d (r.map V.int)) = true ↔ (0 ≤ d ∧ d ≤ b + 1 ∧ chainI d r)
    rw [Bool.and_eq_true, Bool.and_eq_true, chainV_ints d r, decide_eq_true_eq, decide_eq_true_eq, and_assoc]
/-- the depths of an outline -/
def Outline (ns : List Int) : Prop := outV (ns.map V.int) = true
theorem outline_iff {ns : List Int} : Outline ns ↔ 1 ≤ ns.length ∧ ns.length ≤ 200 ∧ chainI (-1) ns := by
  unfold Outline outV
  rw [List.length_map, Bool.and_eq_true, Bool.and_eq_true, chainV_ints, decide_eq_true_eq, decide_eq_true_eq, and_assoc]
theorem Outline.chain {ns : List Int} (h : Outline ns) : chainI (-1) ns := (outline_iff.mp h).2.2
theorem Outline.len {ns : List Int} (h : Outline ns) : 1 ≤ ns.length ∧ ns.length ≤ 200 := ⟨(outline_iff.mp h).1, (outline_iff.mp h).2.1⟩
theorem Outline.bound {ns : List Int} (h : Outline ns) {i : Nat} {d : Int} (e : ns[i]? = some d) : 0 ≤ d ∧ d ≤ i := by
  have := chainI_bounds _ _ h.chain i d e
  omega
theorem Outline.small {ns : List Int} (h : Outline ns) : ∀ n ∈ ns, n.natAbs < 2 ^ 1000 := fun n hn => by
  obtain ⟨i, e⟩ := List.mem_iff_getElem?.mp hn
  have b := h.bound e
  have l := (List.getElem?_eq_some_iff.mp e).1
  have := h.len.2
  have z : (200 : Nat) < 2 ^ 1000 := by decide
  omega

/-! ### check_outline (of an outline), stops_of, stops -/
def sp_check_outline : Sp := fun vs H Q _ => ∃ (a : Addr) (ns : List Int) (L : Lg), vs = [.ref a] ∧ Led H L ∧ (a, .lst (ns.map V.int)) ∈ L ∧ Outline ns ∧ Tr L (fun H => Q .non H)
theorem use_check_outline {L : Lg} {Q : VK} {E : XK} {a : Addr} {ns : List Int} (hm : (a, .lst (ns.map V.int)) ∈ L) (ho : Outline ns) (k : Tr L fun H => Q .non H) : Tr L fun H => sp_check_outline [.ref a] H Q E := fun H l => ⟨a, ns, L, rfl, l, hm, ho, k⟩
theorem outIs_ints {L : Lg} {a : Addr} {ns : List Int} (hm : (a, .lst (ns.map V.int)) ∈ L) : OutIs L (.ref a) (outV (ns.map V.int)) :=
  .inl ⟨a, _, rfl, hm, fun y hy => by obtain ⟨n, _, rfl⟩ := List.mem_map.mp hy; exact ⟨_, .int n⟩, rfl⟩
theorem ok_check_outline (D : Df K mg "check_outline" s_check_outline) (k_is_outline : Ok P w K mg base CX0 2 "is_outline" ["value"] sp_is_outline) :
    Ok P w K mg base CX0 3 "check_outline" ["outline"] sp_check_outline := by
  obtain ⟨f, fd, hm, F⟩ := D
  refine ⟨f, fd, hm, F.kp, F.binds (fun _ _ _ _ _ _ us hl => match us, hl with | [_], _ => rfl), FunOkG F sc_check_outline (fun vs H Q E h => ?_) (fun cdv A outer s H vs Q E hr h => ?_), F.lk⟩
  · obtain ⟨a, ns, L, rfl, _⟩ := h; rfl
  · obtain ⟨a, ns, L, rfl, l, hm, ho, q⟩ := h
    refine ⟨_, PSs.nox (pss_one (ps_if (pt_not (pt_val (pe_callG k_is_outline (hr.mono (by omega)) pas0 (pa_cons (pv 0) pa_nil)))) pss_never
        pss_nil)), ?_⟩
    rw [show L2.start ["outline"] [.ref a] = [some (.ref a)] from rfl]
    refine Tr.of (L := L) ?_ l
    repeat walk_at "hz"
    refine use_is_outline (outIs_ints hm) ?_
    repeat walk_at "hz"
    refine t_ifF (by rw [show outV (ns.map V.int) = true from ho]; rfl) ?_
    repeat walk_at "hz"
    exact q
/-- line minus depth -/
def stopsFrom : Int → List Int → List Int
  | _, [] => []
  | k, d :: r => (k - d) :: stopsFrom (k + 1) r
def stopsI (ns : List Int) : List Int := stopsFrom 0 ns
theorem stopsFrom_len : ∀ (k : Int) (ns : List Int), (stopsFrom k ns).length = ns.length
  | _, [] => rfl
  | k, d :: r => by rw [stopsFrom, List.length_cons, List.length_cons, stopsFrom_len]
theorem stopsFrom_get : ∀ (k : Int) (ns : List Int) (i : Nat) (d : Int), ns[i]? = some d → (stopsFrom k ns)[i]? = some (k + i - d)
  | k, d :: r, 0, e, h => by
    cases h
    show some (k - d) = some (k + ((0 : Nat) : Int) - d)
    congr 1; omega
  | k, d :: r, i + 1, e, h => by
    show (stopsFrom (k + 1) r)[i]? = _
    rw [stopsFrom_get (k + 1) r i e (by simpa using h)]
    congr 1; omega
theorem map_get {α β : Type} {f : α → β} {xs : List α} {i : Nat} {y : β} (h : (xs.map f)[i]? = some y) : ∃ x, xs[i]? = some x ∧ y = f x := by
  rw [List.getElem?_map] at h
  cases e : xs[i]? with
  | none => rw [e] at h; cases h
  | some x => rw [e] at h; cases h; exact ⟨x, rfl, rfl⟩
theorem get_map {α β : Type} (f : α → β) {xs : List α} {i : Nat} {x : α} (h : xs[i]? = some x) : (xs.map f)[i]? = some (f x) := by rw [List.getElem?_map, h]; rfl

/-! ### headings, by the ints -/
def hbk (f : Int → Int) : Nat → Int → List Int
  | 0, _ => []
  | k + 1, d => if f (k : Nat) < d then ((k : Nat) : Int) :: hbk f k (f (k : Nat)) else hbk f k d
/-- the last place below k where f is e -/
def lastW (f : Int → Int) (e : Int) : Nat → Int
  | 0 => -1
  | k + 1 => if f (k : Nat) = e then ((k : Nat) : Int) else lastW f e k
structure Stp (f : Int → Int) (n : Nat) : Prop where
  zero : f 0 = 0
  nn : ∀ i : Nat, i < n → 0 ≤ f i
  up : ∀ i : Nat, i + 1 < n → f ((i + 1 : Nat) : Int) ≤ f i + 1
theorem hbk_eq {f : Int → Int} {n : Nat} (S : Stp f n) : ∀ (k : Nat) (d : Int), k ≤ n → 0 ≤ d → (k = 0 → d = 0) → (∀ j : Nat, k = j + 1 → d ≤ f j + 1) →
    hbk f k d = ((List.range d.toNat).map fun e => lastW f (e : Nat) k).reverse
  | 0, d, _, _, h0, _ => by rw [h0 rfl]; rfl
  | k + 1, d, hk, hd, _, h1 => by
    have b := h1 k rfl
    have nn := S.nn k (by omega)
    have up : ∀ j : Nat, k = j + 1 → f k ≤ f j + 1 := fun j e => by subst e; exact S.up j (by omega)
    have z : k = 0 → f k = 0 := fun e => by subst e; exact S.zero
    unfold hbk
    by_cases h : f k < d
    · rw [if_pos h, hbk_eq S k (f k) (by omega) nn z up]
      obtain rfl : d = f k + 1 := by omega
      rw [show (f k + 1).toNat = (f k).toNat + 1 by omega, List.range_succ, List.map_append, List.reverse_append]
      congr 1
      · simp only [List.map_cons, List.map_nil, List.reverse_cons, List.reverse_nil, List.nil_append, List.cons.injEq, and_true]
        unfold lastW
        rw [if_pos (by omega)]
      · congr 1
        refine List.map_congr_left fun e he => ?_
        have := List.mem_range.mp he
        rw [show lastW f e (k + 1) = lastW f e k by rw [lastW, if_neg (by omega)]]
    · rw [if_neg h, hbk_eq S k d (by omega) hd (fun e => by have := z e; omega) fun j e => by have := up j e; omega]
      congr 1
      refine List.map_congr_left fun e he => ?_
      have := List.mem_range.mp he
      rw [show lastW f e (k + 1) = lastW f e k by rw [lastW, if_neg (by omega)]]
theorem hbk_len (f : Int → Int) : ∀ (k : Nat) (d : Int), (hbk f k d).length ≤ k
  | 0, _ => Nat.le_refl 0
  | k + 1, d => by
    unfold hbk
    split
    · have := hbk_len f k (f k)
      rw [List.length_cons]; omega
    · have := hbk_len f k d
      omega
/-- the headings of the line i -/
def hdI (ns : List Int) (i : Int) : List Int := (hbk (atD ns) i.toNat (atD ns i)).reverse
theorem hdI_len (ns : List Int) (i : Int) : (hdI ns i).length ≤ i.toNat := by unfold hdI; rw [List.length_reverse]; exact hbk_len _ _ _
theorem chainI_stp : ∀ (b : Int) (ns : List Int), chainI b ns → ∀ i : Nat, i + 1 < ns.length → atD ns ((i + 1 : Nat) : Int) ≤ atD ns (i : Nat) + 1
  | b, d :: e :: r, h, 0, _ => by
    show e ≤ d + 1
    exact h.2.2.2.1
  | b, d :: r, h, i + 1, hi => by
    have := chainI_stp d r h.2.2 i (by simpa using hi)
    exact this
theorem Outline.at {ns : List Int} (h : Outline ns) {i : Int} (h0 : 0 ≤ i) (h1 : i < ns.length) : 0 ≤ atD ns i ∧ atD ns i ≤ i := by
  have := h.bound (atD_get h0 h1)
  omega
theorem Outline.stp {ns : List Int} (h : Outline ns) : Stp (atD ns) ns.length where
  zero := by have := h.at (i := 0) (by omega) (by have := h.len; omega); omega
  nn := fun i hi => (h.at (i := (i : Nat)) (by omega) (by omega)).1
  up := chainI_stp _ _ h.chain
theorem hdI_eq {ns : List Int} (h : Outline ns) {i : Int} (h0 : 0 ≤ i) (h1 : i < ns.length) : hdI ns i = (List.range (atD ns i).toNat).map fun e => lastW (atD ns) (e : Nat) i.toNat := by
  have a := h.at h0 h1
  have S := h.stp
  unfold hdI
  rw [hbk_eq S i.toNat (atD ns i) (by omega) a.1 (fun e => by omega) fun j e => by
    have := S.up j (by omega)
    rw [← e, Int.toNat_of_nonneg h0] at this
    exact this]
  rw [List.reverse_reverse]
/-! ### the last line of a section -/
structure SecEnd (f : Int → Int) (n : Int) (p e : Int) : Prop where
  lo : p ≤ e
  hi : e < n
  deep : ∀ k, p < k → k ≤ e → f p < f k
  stop : e + 1 < n → f (e + 1) ≤ f p
theorem SecEnd.uniq {f : Int → Int} {n p e e' : Int} (h : SecEnd f n p e) (h' : SecEnd f n p e') : e = e' := by
  have key : ∀ {e e' : Int}, SecEnd f n p e → SecEnd f n p e' → ¬ e < e' := fun {e e'} h h' lt => by
    have a := h.stop (by have := h'.hi; omega)
    have b := h'.deep (e + 1) (by have := h.lo; omega) (by omega)
    omega
  have a := key h h'
  have b := key h' h
  omega
/-- the children between the line and the end of its section -/
def chI (ns : List Int) (p e : Int) : List Int := (rgI (p + 1) (e + 1)).filter fun k => decide (atD ns k = atD ns p + 1)
theorem fl_rg (f : Int → Bool) (a b : Int) : fl (fun i => f (a + (i : Nat))) (fun i => a + (i : Nat)) (b - a).toNat = (rgI a b).filter f := by
  unfold fl rgI
  rw [List.filter_map]
  rfl

/-! ### the law's bag of numbers -/
def Bag (m : Nat) (o : HO) : Prop := ∃ s0 s1 s2 : Int, o = .lst [.int s0, .int s1, .int s2] ∧ 0 ≤ s0 ∧ 0 ≤ s1 ∧ s1 < 2 ^ 140 ∧ 0 ≤ s2 ∧ s2 ≤ m
theorem Bag.le {m n : Nat} {o : HO} (h : Bag m o) (e : m ≤ n) : Bag n o := by
  obtain ⟨s0, s1, s2, h1, h2, h3, h4, h5, h6⟩ := h
  exact ⟨s0, s1, s2, h1, h2, h3, h4, h5, by omega⟩
def sp_law_bag  : Sp := fun vs H Q _ => ∃ (c k : Int) (L : Lg), vs = [.int c, .int k] ∧ Led H (L) ∧ (0 ≤ k) ∧ (k < 1000000) ∧ ∀ (p : Addr) (o : HO), (Bag 0 o) → Tr ((p, o) :: L) (fun H => Q (.ref p) H)
theorem use_law_bag {L : Lg} {Q : VK} {E : XK} {c k : Int} (h0 : 0 ≤ k) (h1 : k < 1000000) (q : ∀ (p : Addr) (o : HO), (Bag 0 o) → Tr ((p, o) :: L) (fun H => Q (.ref p) H)) : Tr L fun H => sp_law_bag [.int c, .int k] H Q E :=
  fun H l => ⟨c, k, L, rfl, l, h0, h1, q⟩

theorem ok_law_bag (D : Df K mg "_law_bag" s_law_bag) (B : Blt mg) : Ok P w K mg base CX0 1 "_law_bag" ["cell", "turn"] sp_law_bag := by
  obtain ⟨f, fd, hm, F⟩ := D
  refine ⟨f, fd, hm, F.kp, F.binds (fun _ _ _ _ _ _ us hl => match us, hl with | [_, _], _ => rfl), FunOkG F sc_law_bag (fun vs H Q E h => ?_) (fun cdv A outer s H vs Q E hr h => ?_), F.lk⟩
  · obtain ⟨_, _, _, rfl, _⟩ := h; rfl
  obtain ⟨c, k, L, rfl, l, h0, h1, q⟩ := h
  refine ⟨_, PSs.nox (pss_cons (ps_set (i := 2) sc_law_bag.nd rfl (.inl rfl) (pe_callB (c_max2 rfl) rfl B.max_ boot_max (pa_cons (pv 0) (pa_cons (pe_op op_sub pe_int (pv 0)) pa_nil))))
      (pss_one (ps_ret (pe_lst (pa_cons (pe_callB (c_max2 rfl) rfl B.max_ boot_max (pa_cons pe_int (pa_cons (pe_op op_sub (pv 2) (pe_op op_powW pe_int pe_int)) pa_nil))) (pa_cons (pe_op op_mod (pe_op op_add (pe_op op_mulA (pv 0) (pe_op op_powW pe_int pe_int)) (pe_op op_mulA (pe_op op_powW pe_int pe_int) (pe_op op_add (pv 1) pe_int))) (pe_op op_add (pe_op op_powW pe_int pe_int) pe_int)) (pa_cons pe_int pa_nil))))))), ?_⟩
  rw [show L2.start ["cell", "turn", "size"] [.int c, .int k] = [some (.int c), some (.int k), none] from rfl]
  refine Tr.of ?_ l
  repeat walk_at "hz"
  refine t_rI (pow_ok 4 (by decide) (by decide) (by decide) (by decide)) ?_
  rw [show (10 : Int) ^ (18 : Int).toNat = 1000000000000000000 by decide]
  repeat walk_at "hz"
  refine t_rI (pow_ok 20 (by decide) (by decide) (by decide) (by decide)) ?_
  rw [show (1000003 : Int) ^ (3 : Int).toNat = 1000009000027000027 by decide]
  refine t_rI (.inr (.inl ⟨by decide, by decide⟩)) ?_
  refine t_op ?_
  refine t_op ?_
  repeat walk_at "hz"
  refine t_rI (pow_ok 30 (by decide) (by decide) (by decide) (by decide)) ?_
  repeat walk_at "hz"
  refine t_rI (pow_ok 4 (by decide) (by decide) (by decide) (by decide)) ?_
  rw [show (10 : Int) ^ (42 : Int).toNat = 1000000000000000000000000000000000000000000 by decide]
  repeat walk_at "hz"
  exact q _ _ ⟨_, _, _, rfl, by omega, Int.emod_nonneg _ (by decide), Int.lt_trans (Int.emod_lt_of_pos _ (by decide)) (by decide), by omega, by omega⟩
def sp_law_draw  : Sp := fun vs H Q _ => ∃ (a : Addr) (c : Int) (m : Nat) (o : HO) (L : Lg), vs = [.ref a, .int c] ∧ Led H ((a, o) :: L) ∧ (Bag m o) ∧ (m ≤ 1000000000) ∧ (0 < c) ∧ (c < 2 ^ 200) ∧ ∀ (d : Int) (o' : HO), (0 ≤ d) → (d < c) → (Bag (m + 1) o') → Tr ((a, o') :: L) (fun H => Q (.int d) H)
theorem use_law_draw {L0  L : Lg} {Q : VK} {E : XK} {a : Addr} {c : Int} {m : Nat} {o : HO} (hp0 : Pick (a) (o) L0 L) (hs : Bag m o) (hm : m ≤ 1000000000) (h0 : 0 < c) (h1 : c < 2 ^ 200) (q : ∀ (d : Int) (o' : HO), (0 ≤ d) → (d < c) → (Bag (m + 1) o') → Tr ((a, o') :: L) (fun H => Q (.int d) H)) : Tr L0 fun H => sp_law_draw [.ref a, .int c] H Q E :=
  fun H l => ⟨a, c, m, o, L, rfl, l.pick hp0, hs, hm, h0, h1, q⟩

theorem ok_law_draw (D : Df K mg "_law_draw" s_law_draw) (B : Blt mg) : Ok P w K mg base CX0 1 "_law_draw" ["bag", "many"] sp_law_draw := by
  obtain ⟨f, fd, hm, F⟩ := D
  refine ⟨f, fd, hm, F.kp, F.binds (fun _ _ _ _ _ _ us hl => match us, hl with | [_, _], _ => rfl), FunOkG F sc_law_draw (fun vs H Q E h => ?_) (fun cdv A outer s H vs Q E hr h => ?_), F.lk⟩
  · obtain ⟨_, _, _, _, _, rfl, _⟩ := h; rfl
  obtain ⟨a, c, m, o, L, rfl, l, hs, hm, h0, h1, q⟩ := h
  refine ⟨_, PSs.nox (pss_cons (ps_if (pt_cmpR op_gt (pe_ix ix_list (pv 0) pe_int (fun _ _ => rfl)) pe_int (nomark _)) (pss_cons (ps_set (i := 2) sc_law_draw.nd rfl (.inl rfl) (pe_op op_mod (pe_ix ix_list (pv 0) pe_int (fun _ _ => rfl)) (pv 1)))
      (pss_cons (ps_asg (pe_op op_fdivW (pe_ix ix_list (pv 0) pe_int (fun _ _ => rfl)) (pv 1)) (pg_sub (pv 0) pe_int set_list))
      (pss_one (ps_ret (pv 2)))))
        pss_nil)
      (pss_cons (ps_asg (pe_op op_add (pe_ix ix_list (pv 0) pe_int (fun _ _ => rfl)) pe_int) (pg_sub (pv 0) pe_int set_list))
      (pss_cons (ps_set (i := 3) sc_law_draw.nd rfl (.inl rfl) (pe_op op_mod (pe_op op_add (pe_ix ix_list (pv 0) pe_int (fun _ _ => rfl)) (pe_op op_mulA (pe_ix ix_list (pv 0) pe_int (fun _ _ => rfl)) (pe_op op_powW pe_int pe_int))) (pe_op op_add (pe_op op_powW pe_int pe_int) pe_int)))
      (pss_cons (ps_set (i := 3) sc_law_draw.nd rfl (.inl rfl) (pe_op op_add (pe_op op_mod (pe_op op_powW (pv 3) pe_int) (pe_op op_add (pe_op op_powW pe_int pe_int) pe_int)) (pe_op op_mulA (pe_ix ix_list (pv 0) pe_int (fun _ _ => rfl)) pe_int)))
      (pss_one (ps_ret (pe_op op_mod (pe_op op_fdivW (pe_op op_mod (pe_op op_powW (pv 3) pe_int) (pe_op op_add (pe_op op_powW pe_int pe_int) pe_int)) pe_int) (pv 1)))))))), ?_⟩
  rw [show L2.start ["bag", "many", "found", "mixed"] [.ref a, .int c] = [some (.ref a), some (.int c), none, none] from rfl]
  refine Tr.of ?_ l
  repeat walk_at "hz"
  obtain ⟨s0, s1, s2, rfl, g0, g1, g2, g3, g4⟩ := hs
  repeat walk_at "hz"
  have hc : c.natAbs < 2 ^ 200 := by omega
  refine t_iteD (fun h2 => ?_) fun h2 => ?_
  · repeat walk_at "hz"
    refine t_rI (div_ok 200 (by decide) h0 hc (by decide)) ?_
    repeat walk_at "hz"
    refine t_setL .head rfl ?_
    repeat walk_at "hz"
    exact q _ _ (Int.emod_nonneg _ (by omega)) (Int.emod_lt_of_pos _ h0) ⟨_, _, _, rfl, Int.ediv_nonneg g0 (by omega), g1, g2, g3, by omega⟩
  · repeat walk_at "hz"
    refine t_setL .head rfl ?_
    repeat walk_at "hz"
    refine t_rI (pow_ok 40 (by decide) (by decide) (by decide) (by decide)) ?_
    rw [show (2971215073 : Int) ^ (3 : Int).toNat = 26230240268816379069089594017 by decide]
    repeat walk_at "hz"
    refine t_rI (pow_ok 4 (by decide) (by decide) (by decide) (by decide)) ?_
    rw [show (10 : Int) ^ (42 : Int).toNat = 1000000000000000000000000000000000000000000 by decide]
    repeat walk_at "hz"
    generalize hx : (s1 + (s2 + 1) * 26230240268816379069089594017) % (1000000000000000000000000000000000000000000 + 63) = x
    have b1 : 0 ≤ x := by rw [← hx]; exact Int.emod_nonneg _ (by decide)
    have b2 : x < 1000000000000000000000000000000000000000000 + 63 := by rw [← hx]; exact Int.emod_lt_of_pos _ (by decide)
    refine t_rI (pow_ok 200 (by decide) (by omega) (by decide) (by decide)) ?_
    repeat walk_at "hz"
    refine t_rI (pow_ok 4 (by decide) (by decide) (by decide) (by decide)) ?_
    rw [show (10 : Int) ^ (39 : Int).toNat = 1000000000000000000000000000000000000000 by decide]
    repeat walk_at "hz"
    generalize hy : x ^ (3 : Int).toNat % (1000000000000000000000000000000000000000 + 33) = y
    have c1 : 0 ≤ y := by rw [← hy]; exact Int.emod_nonneg _ (by decide)
    have c2 : y < 1000000000000000000000000000000000000000 + 33 := by rw [← hy]; exact Int.emod_lt_of_pos _ (by decide)
    refine t_rI (pow_ok 200 (by decide) (by omega) (by decide) (by decide)) ?_
    repeat walk_at "hz"
    refine t_rI (pow_ok 4 (by decide) (by decide) (by decide) (by decide)) ?_
    rw [show (10 : Int) ^ (37 : Int).toNat = 10000000000000000000000000000000000000 by decide]
    repeat walk_at "hz"
    refine t_rI (div_ok 20 (by decide) (by decide) (by decide) (by decide)) ?_
    repeat walk_at "hz"
    exact q _ _ (Int.emod_nonneg _ (by omega)) (Int.emod_lt_of_pos _ h0) ⟨_, _, _, rfl, g0, g1, g2, by omega, by omega⟩
def sp_law_rising  : Sp := fun vs H Q _ => ∃ (a : Addr) (most : Int) (m : Nat) (o : HO) (L : Lg), vs = [.ref a, .int most] ∧ Led H ((a, o) :: L) ∧ (Bag m o) ∧ (m ≤ 100000000) ∧ (1 ≤ most) ∧ (most ≤ 200) ∧ ∀ (ns : List Int) (p : Addr) (o' : HO), (Outline ns) → ((ns.length : Int) ≤ most) → (Bag (m + 1000) o') → Tr ((p, .lst (ns.map V.int)) :: (a, o') :: L) (fun H => Q (.ref p) H)
theorem use_law_rising {L0  L : Lg} {Q : VK} {E : XK} {a : Addr} {most : Int} {m : Nat} {o : HO} (hp0 : Pick (a) (o) L0 L) (hs : Bag m o) (hm : m ≤ 100000000) (h0 : 1 ≤ most) (h1 : most ≤ 200) (q : ∀ (ns : List Int) (p : Addr) (o' : HO), (Outline ns) → ((ns.length : Int) ≤ most) → (Bag (m + 1000) o') → Tr ((p, .lst (ns.map V.int)) :: (a, o') :: L) (fun H => Q (.ref p) H)) : Tr L0 fun H => sp_law_rising [.ref a, .int most] H Q E :=
  fun H l => ⟨a, most, m, o, L, rfl, l.pick hp0, hs, hm, h0, h1, q⟩

theorem ok_law_rising (D : Df K mg "_law_rising" s_law_rising) (B : Blt mg) (k__law_draw : Ok P w K mg base CX0 1 "_law_draw" ["bag", "many"] sp_law_draw) : Ok P w K mg base CX0 2 "_law_rising" ["bag", "most"] sp_law_rising := by
  obtain ⟨f, fd, hm, F⟩ := D
  refine ⟨f, fd, hm, F.kp, F.binds (fun _ _ _ _ _ _ us hl => match us, hl with | [_, _], _ => rfl), FunOkG F sc_law_rising (fun vs H Q E h => ?_) (fun cdv A outer s H vs Q E hr h => ?_), F.lk⟩
  · obtain ⟨_, _, _, _, _, rfl, _⟩ := h; rfl
  obtain ⟨a, most, m, o, L, rfl, l, hs, hm, h0, h1, q⟩ := h
  refine ⟨_, PSs.nox (pss_cons (ps_par (i := 2) (j := 3) (by rfl) sc_law_rising.nd rfl rfl (by decide) rfl rfl (pa_cons (pe_callG k__law_draw (hr.mono (by omega)) pas0 (pa_cons (pv 0) (pa_cons pe_int pa_nil))) (pa_cons (pe_op op_add pe_int (pe_callG k__law_draw (hr.mono (by omega)) pas0 (pa_cons (pv 0) (pa_cons (pv 1) pa_nil)))) pa_nil)) (by rfl))
      (pss_cons (ps_set (i := 4) sc_law_rising.nd rfl (.inl rfl) (pe_lst (pa_cons pe_int pa_nil)))
      (pss_cons (ps_for PassesOwn.never rfl (pi_range1 rfl B.range_ (pa_cons (pe_op op_sub (pv 3) pe_int) pa_nil)) (pg_name (i := 5) sc_law_rising.nd rfl (.inl rfl))
        (pss_cons (ps_set (i := 6) sc_law_rising.nd rfl (.inl rfl) (pe_op op_add (pe_ix ix_list (pv 4) (pe_un un_neg pe_int) (fun _ _ => rfl)) pe_int))
      (pss_cons (ps_set (i := 7) sc_law_rising.nd rfl (.inl rfl) (pe_lst (pa_cons (pe_callG k__law_draw (hr.mono (by omega)) pas0 (pa_cons (pv 0) (pa_cons (pe_op op_add (pv 6) pe_int) pa_nil))) (pa_cons (pe_op op_sub (pv 6) (pe_callTy c_int rfl B.int_ boot_int (pa_cons (pe_cmpR op_eq (pe_callG k__law_draw (hr.mono (by omega)) pas0 (pa_cons (pv 0) (pa_cons pe_int pa_nil))) pe_int (nomark _)) pa_nil))) (pa_cons (pe_callG k__law_draw (hr.mono (by omega)) pas0 (pa_cons (pv 0) (pa_cons (pe_op op_add (pe_callB (c_min2 rfl) rfl B.min_ boot_min (pa_cons (pv 6) (pa_cons pe_int pa_nil))) pe_int) pa_nil))) pa_nil)))))
      (pss_cons (ps_expr (pe_bm PySem.F.plainAttrs_list PySem.F.slot_list_append PySem.F.type_list_append mt_append (pv 7) (pa_cons (pe_callB (c_max2 rfl) rfl B.max_ boot_max (pa_cons pe_int (pa_cons (pe_op op_sub (pv 6) (pe_callG k__law_draw (hr.mono (by omega)) pas0 (pa_cons (pv 0) (pa_cons pe_int pa_nil)))) pa_nil))) pa_nil)))
      (pss_one (ps_expr (pe_bm PySem.F.plainAttrs_list PySem.F.slot_list_append PySem.F.type_list_append mt_append (pv 4) (pa_cons (pe_callB (c_max2 rfl) rfl B.max_ boot_max (pa_cons pe_int (pa_cons (pe_ix ix_list (pv 7) (pv 2) (fun _ _ => rfl)) pa_nil))) pa_nil))))))))
      (pss_one (ps_ret (pv 4)))))), ?_⟩
  rw [show L2.start ["bag", "most", "style", "many", "found", "turn", "top", "some"] [.ref a, .int most] = [some (.ref a), some (.int most), none, none, none, none, none, none] from rfl]
  refine Tr.of ?_ l
  repeat walk_at "hz"
  refine use_law_draw (by walk_at "pk") hs (by omega) (by omega) (by omega) fun style o_style stylel styleh hs => ?_
  repeat walk_at "hz"
  refine use_law_draw (by walk_at "pk") hs (by omega) (by omega) (by omega) fun many o_many manyl manyh hs => ?_
  repeat walk_at "hz"
  rename_i p
  refine t_forK wk_range (fun t ((ns, o, j5, j6, j7) : (List Int) × HO × Option V × Option V × Option V) => [some (.ref a), some (.int most), some (.int style), some (.int (1 + many)), some (.ref p), j5, j6, j7]) (fun t ((ns, o, j5, j6, j7) : (List Int) × HO × Option V × Option V × Option V) => (p, .lst (ns.map V.int)) :: (a, o) :: L) (fun t ((ns, o, j5, j6, j7) : (List Int) × HO × Option V × Option V × Option V) => ns.length = t + 1 ∧ chainI (-1) ns ∧ Bag (m + 2 + 4 * t) o) ⟨([0], o_many, _, _, _), ⟨rfl, ⟨by decide, by decide, trivial⟩, hs⟩, rfl, (by walk_at "sb")⟩ (fun _ _ _ => trivial) ?_ ?_
  · rintro t ⟨ns, o, j5, j6, j7⟩ v L' ht ⟨hl, hc, hs⟩ ⟨rfl, rfl⟩
    try dsimp only at hl hc hs ⊢
    simp only [List.nil_append, List.cons_append]
    have lb := lastD_bound (-1) ns hc (by omega)
    repeat walk_at "hz"
    refine t_ixL (by walk_at "pk") (at_lastD (-1) (by omega)) ?_
    repeat walk_at "hz"
    refine use_law_draw (by walk_at "pk") hs (by omega) (by omega) (by omega) fun e1 o_e1 e1l e1h hs => ?_
    repeat walk_at "hz"
    refine use_law_draw (by walk_at "pk") hs (by omega) (by omega) (by omega) fun e2 o_e2 e2l e2h hs => ?_
    repeat walk_at "hz"
    have eb : 0 ≤ (if decide (e2 = 0) = true then (1 : Int) else 0) ∧ (if decide (e2 = 0) = true then (1 : Int) else 0) ≤ 1 := by split <;> omega
    generalize (if decide (e2 = 0) = true then (1 : Int) else 0) = ee at eb
    refine use_law_draw (by walk_at "pk") hs (by omega) (by omega) (by omega) fun e3 o_e3 e3l e3h hs => ?_
    repeat walk_at "hz"
    rename_i pp
    refine use_law_draw (by walk_at "pk") hs (by omega) (by omega) (by omega) fun e4 o_e4 e4l e4h hs => ?_
    repeat walk_at "hz"
    obtain ⟨n, hn, nm, -⟩ := at_mem (ns := [e1, lastD (-1) ns + 1 - ee, e3, max 0 (lastD (-1) ns + 1 - e4)]) stylel (by simpa using styleh)
    have nb : n ≤ lastD (-1) ns + 1 := by
      simp only [List.mem_cons, List.not_mem_nil, or_false] at nm
      omega
    refine t_ixL (by walk_at "pk") hn ?_
    repeat walk_at "hz"
    refine t_pst (ns ++ [max 0 n], o_e4, _, _, _) ⟨(by (try dsimp only); (try simp only [List.length_append, List.length_cons, List.length_nil, List.length_map, List.length_singleton]); omega), (chainI_append _ _ _).mpr ⟨hc, by omega, by omega, trivial⟩, hs.le (by omega)⟩ rfl (by walk_at "sb")
  · rintro ⟨ns, o, j5, j6, j7⟩ ⟨hl, hc, hs⟩
    try dsimp only at hl hc hs ⊢
    repeat walk_at "hz"
    exact q ns p o (outline_iff.mpr ⟨by omega, by omega, hc⟩) (by omega) (hs.le (by omega))

/-- the least line that stands at or behind the scroll -/
structure TopIs (f : Int → Int) (n s t : Int) : Prop where
  lo : 0 ≤ t
  hi : t < n
  ok : s ≤ t - f t
  least : ∀ k, 0 ≤ k → k < t → k - f k < s
theorem TopIs.uniq {f : Int → Int} {n s t t' : Int} (h : TopIs f n s t) (h' : TopIs f n s t') : t = t' := by
  have a := h.least t' h'.lo
  have b := h'.least t h.lo
  have := h.ok
  have := h'.ok
  omega
theorem Stp.stops {f : Int → Int} {n : Nat} (S : Stp f n) : ∀ (k i : Nat), i + k < n → (i : Int) - f i ≤ ((i + k : Nat) : Int) - f ((i + k : Nat) : Int)
  | 0, _, _ => Int.le_refl _
  | k + 1, i, h => by
    have := S.stops k i (by omega)
    have := S.up (i + k) (by omega)
    rw [show ((i + (k + 1) : Nat) : Int) = ((i + k + 1 : Nat) : Int) by omega]
    omega
theorem Outline.mono {ns : List Int} (h : Outline ns) {i j : Int} (h0 : 0 ≤ i) (h1 : i ≤ j) (h2 : j < ns.length) : i - atD ns i ≤ j - atD ns j := by
  have := h.stp.stops (j - i).toNat i.toNat (by omega)
  rw [show ((i.toNat + (j - i).toNat : Nat) : Int) = j by omega, Int.toNat_of_nonneg h0] at this
  exact this
theorem topIs_iff {ns : List Int} (h : Outline ns) {s t : Int} (h0 : 0 ≤ t) : TopIs (atD ns) ns.length s t ↔ t < ns.length ∧ s ≤ t - atD ns t ∧ (0 < t → t - 1 - atD ns (t - 1) < s) := by
  constructor
  · intro x
    exact ⟨x.hi, x.ok, fun p => x.least (t - 1) (by omega) (by omega)⟩
  · rintro ⟨a, b, c⟩
    refine ⟨h0, a, b, fun k k0 k1 => ?_⟩
    have := h.mono k0 (show k ≤ t - 1 by omega) (by omega)
    have := c (by omega)
    omega
theorem atD_last {ns : List Int} (h : 1 ≤ ns.length) : atD ns ((ns.length : Int) - 1) = lastD (-1) ns := by
  have := at_lastD (-1) h
  have e := atI_nat (α := V) (xs := ns.map V.int) (j := ns.length - 1) (v := .int (lastD (-1) ns)) (by have := last_get (-1) h; rwa [List.length_map] at this)
  have e2 := atD_at (ns := ns) (i := (ns.length : Int) - 1) (by omega) (by omega)
  rw [show ((ns.length - 1 : Nat) : Int) = (ns.length : Int) - 1 by omega] at e
  rw [e] at e2
  exact (V.int.inj (Option.some.inj e2)).symm
theorem Outline.top {ns : List Int} (h : Outline ns) {s : Int} (hs : s ≤ ns.length - 1 - lastD (-1) ns) : ∃ k : Int, 0 ≤ k ∧ k < ns.length ∧ s ≤ k - atD ns k :=
  ⟨ns.length - 1, by have := h.len; omega, by omega, by rw [atD_last h.len.1]; exact hs⟩
/-- is the top line at the scroll position this one -/
noncomputable def topB (f : Int → Int) (n : Int) (p : Int × Int) : Bool := @decide (TopIs f n p.1 p.2) (Classical.propDecidable _)
theorem topB_iff {f : Int → Int} {n : Int} {p : Int × Int} : topB f n p = true ↔ TopIs f n p.1 p.2 := by
  unfold topB
  exact @decide_eq_true_iff _ (Classical.propDecidable _)
theorem topB_eq {f : Int → Int} {n : Int} {p : Int × Int} {r : Bool} (h : r = true ↔ TopIs f n p.1 p.2) : r = topB f n p := by
  rw [Bool.eq_iff_iff, h, topB_iff]

def sp_law_cells (K : PySem.W.Frag) : Sp := fun vs H Q _ => ∃ (a : Addr) (ns : List Int) (L : Lg), vs = [.ref a] ∧ Led H (L) ∧ (Scr K L a ns) ∧ (ns.length ≤ 63) ∧ ∀ (p : Addr) (cs : List Int), (cs.length ≤ 8) → Tr ((p, .lst (cs.map V.int)) :: L) (fun H => Q (.ref p) H)
theorem use_law_cells {L : Lg} {Q : VK} {E : XK} {a : Addr} {ns : List Int} (hS : Scr K L a ns) (hl : ns.length ≤ 63) (q : ∀ (p : Addr) (cs : List Int), (cs.length ≤ 8) → Tr ((p, .lst (cs.map V.int)) :: L) (fun H => Q (.ref p) H)) : Tr L fun H => sp_law_cells K [.ref a] H Q E :=
  fun H l => ⟨a, ns, L, rfl, l, hS, hl, q⟩

theorem ok_law_cells (D : Df K mg "_law_cells" s_law_cells) (B : Blt mg) : Ok P w K mg base CX0 1 "_law_cells" ["script"] (sp_law_cells K) := by
  obtain ⟨f, fd, hm, F⟩ := D
  refine ⟨f, fd, hm, F.kp, F.binds (fun _ _ _ _ _ _ us hl => match us, hl with | [_], _ => rfl), FunOkG F sc_law_cells (fun vs H Q E h => ?_) (fun cdv A outer s H vs Q E hr h => ?_), F.lk⟩
  · obtain ⟨_, _, _, rfl, _⟩ := h; rfl
  obtain ⟨a, ns, L, rfl, l, hS, hl, q⟩ := h
  refine ⟨_, PSs.nox (pss_one (ps_ret (pe_op op_cat (pe_lst (pa_cons (pe_callB c_len rfl B.len_ boot_len (pa_cons (pv 0) pa_nil)) pa_nil)) (pe_slice sl_list (pv 0) po_none (po_some pe_int))))), ?_⟩
  rw [show L2.start ["script"] [.ref a] = [some (.ref a)] from rfl]
  refine Tr.of ?_ l
  repeat walk_at "hz"
  refine t_lenSc hS ?_
  repeat walk_at "hz"
  refine t_slSc hS.cons fun c => ?_
  refine Tr.lcast (cut_ints ns none (some 7)) ?_
  have h7 : (cutI ns none (some 7)).length ≤ 7 := by
    rw [cutI_upto (by decide), List.length_take]; omega
  refine t_cat (xs := [.int ns.length]) (ys := (cutI ns none (some 7)).map V.int) (.tail .head) .head (by rw [sizeLine_eq, List.length_map]; simp; omega) fun d => ?_
  exact (q d ((ns.length : Int) :: cutI ns none (some 7)) (by simp; omega)).sub (by walk_at "sb")
def sp_law_sized (K : PySem.W.Frag) : Sp := fun vs H Q _ => ∃ (z a : Addr) (zs : List Int) (small great : Int) (m : Nat) (o : HO) (L : Lg), vs = [.ref z, .ref a, .int small, .int great] ∧ Led H ((a, o) :: L) ∧ (Scr K L z zs) ∧ (Bag m o) ∧ (m ≤ 100000) ∧ (1 ≤ small ∧ small ≤ 200) ∧ (8 ≤ great ∧ great ≤ 200) ∧ (small ≤ great) ∧ ∀ (ns : List Int) (p : Addr) (o' : HO), (Outline ns) → ((ns.length : Int) ≤ great) → (Bag (m + 1001) o') → Tr ((p, .lst (ns.map V.int)) :: (a, o') :: L) (fun H => Q (.ref p) H)
theorem use_law_sized {L0  L : Lg} {Q : VK} {E : XK} {z a : Addr} {zs : List Int} {small great : Int} {m : Nat} {o : HO} (hp0 : Pick (a) (o) L0 L) (hS : Scr K L z zs) (hs : Bag m o) (hm : m ≤ 100000) (h0 : 1 ≤ small ∧ small ≤ 200) (h1 : 8 ≤ great ∧ great ≤ 200) (h2 : small ≤ great) (q : ∀ (ns : List Int) (p : Addr) (o' : HO), (Outline ns) → ((ns.length : Int) ≤ great) → (Bag (m + 1001) o') → Tr ((p, .lst (ns.map V.int)) :: (a, o') :: L) (fun H => Q (.ref p) H)) : Tr L0 fun H => sp_law_sized K [.ref z, .ref a, .int small, .int great] H Q E :=
  fun H l => ⟨z, a, zs, small, great, m, o, L, rfl, l.pick hp0, hS, hs, hm, h0, h1, h2, q⟩

theorem ok_law_sized (D : Df K mg "_law_sized" s_law_sized) (B : Blt mg) (k__law_draw : Ok P w K mg base CX0 1 "_law_draw" ["bag", "many"] sp_law_draw) (k__law_rising : Ok P w K mg base CX0 2 "_law_rising" ["bag", "most"] sp_law_rising) : Ok P w K mg base CX0 3 "_law_sized" ["script", "bag", "small", "great"] (sp_law_sized K) := by
  obtain ⟨f, fd, hm, F⟩ := D
  refine ⟨f, fd, hm, F.kp, F.binds (fun _ _ _ _ _ _ us hl => match us, hl with | [_, _, _, _], _ => rfl), FunOkG F sc_law_sized (fun vs H Q E h => ?_) (fun cdv A outer s H vs Q E hr h => ?_), F.lk⟩
  · obtain ⟨_, _, _, _, _, _, _, _, rfl, _⟩ := h; rfl
  obtain ⟨z, a, zs, small, great, m, o, L, rfl, l, hS, hs, hm, h0, h1, h2, q⟩ := h
  refine ⟨_, PSs.nox (pss_cons (ps_if (pt_cmpR (op_eqD hr.rm.units) (pv 0) (pe_lst pa_nil) (nomark _)) (pss_one (ps_ret (pe_callG k__law_rising (hr.mono (by omega)) pas0 (pa_cons (pv 1) (pa_cons pe_int pa_nil)))))
        pss_nil)
      (pss_one (ps_ret (pe_callG k__law_rising (hr.mono (by omega)) pas0 (pa_cons (pv 1) (pa_cons (pe_ix ix_list (pe_lst (pa_cons pe_int (pa_cons (pv 2) (pa_cons (pv 3) pa_nil)))) (pe_callG k__law_draw (hr.mono (by omega)) pas0 (pa_cons (pv 1) (pa_cons pe_int pa_nil))) (fun _ _ => rfl)) pa_nil)))))), ?_⟩
  rw [show L2.start ["script", "bag", "small", "great"] [.ref z, .ref a, .int small, .int great] = [some (.ref z), some (.ref a), some (.int small), some (.int great)] from rfl]
  refine Tr.of ?_ l
  repeat walk_at "hz"
  refine t_eqSc (zs := []) hS.cons.cons (by walk_at "mb") ?_
  repeat walk_at "hz"
  refine t_iteD (fun h => ?_) fun h => ?_
  · repeat walk_at "hz"
    refine use_law_rising (by walk_at "pk") hs (by omega) (by omega) (by omega) fun ns p o1 ho hn hs => ?_
    exact (q ns p o1 ho (by omega) (hs.le (by omega))).sub (by walk_at "sb")
  · repeat walk_at "hz"
    refine use_law_draw (by walk_at "pk") hs (by omega) (by omega) (by omega) fun e o_e el eh hs => ?_
    repeat walk_at "hz"
    obtain ⟨x, x_at, x_mem, -⟩ := at_mem (ns := [8, small, great]) el (by simpa using eh)
    have xb : 1 ≤ x ∧ x ≤ great := by
      simp only [List.mem_cons, List.not_mem_nil, or_false] at x_mem
      omega
    refine t_ixL (by walk_at "pk") x_at ?_
    repeat walk_at "hz"
    refine use_law_rising (by walk_at "pk") hs (by omega) (by omega) (by omega) fun ns p o1 ho hn hs => ?_
    exact (q ns p o1 ho (by omega) (hs.le (by omega))).sub (by walk_at "sb")

/-! ### check_line, headings_of, headings, section, children -/
def sp_check_line  : Sp := fun vs H Q _ => ∃ (a : Addr) (ns : List Int) (i : Int) (L : Lg), vs = [.ref a, .int i] ∧ Led H (L) ∧ ((a, .lst (ns.map V.int)) ∈ L) ∧ (0 ≤ i) ∧ (i < ns.length) ∧ Tr (L) (fun H => Q (.non) H)
theorem use_check_line {L : Lg} {Q : VK} {E : XK} {a : Addr} {ns : List Int} {i : Int} (hm : (a, .lst (ns.map V.int)) ∈ L) (h0 : 0 ≤ i) (h1 : i < ns.length) (q : Tr (L) (fun H => Q (.non) H)) : Tr L fun H => sp_check_line [.ref a, .int i] H Q E :=
  fun H l => ⟨a, ns, i, L, rfl, l, hm, h0, h1, q⟩

theorem ok_check_line (D : Df K mg "check_line" s_check_line) (B : Blt mg) (k_is_integer : Ok P w K mg base CX0 1 "is_integer" ["value"] sp_is_integer) : Ok P w K mg base CX0 2 "check_line" ["outline", "line"] sp_check_line := by
  obtain ⟨f, fd, hm, F⟩ := D
  refine ⟨f, fd, hm, F.kp, F.binds (fun _ _ _ _ _ _ us hl => match us, hl with | [_, _], _ => rfl), FunOkG F sc_check_line (fun vs H Q E h => ?_) (fun cdv A outer s H vs Q E hr h => ?_), F.lk⟩
  · obtain ⟨_, _, _, _, rfl, _⟩ := h; rfl
  obtain ⟨a, ns, i, L, rfl, l, hm, h0, h1, q⟩ := h
  refine ⟨_, PSs.nox (pss_one (ps_if (PW.pt (pw_or (pt_not (pt_val (pe_callG k_is_integer (hr.mono (by omega)) pas0 (pa_cons (pv 1) pa_nil)))) (pw_or1 (pt_not (pt_chain op_le op_lt pe_int (pv 1) (pe_callB c_len rfl B.len_ boot_len (pa_cons (pv 0) pa_nil))))))) pss_never
        pss_nil)), ?_⟩
  rw [show L2.start ["outline", "line"] [.ref a, .int i] = [some (.ref a), some (.int i)] from rfl]
  refine Tr.of ?_ l
  obtain ⟨R_hm, P_hm⟩ := Pick.of_mem hm
  repeat walk_at "hz"
  refine use_is_integer (.int i) ?_
  obtain ⟨R, hp⟩ := Pick.of_mem hm
  repeat walk_at "hz"
  exact q
def sp_headings_of  : Sp := fun vs H Q _ => ∃ (a : Addr) (ns : List Int) (i : Int) (L : Lg), vs = [.ref a, .int i] ∧ Led H (L) ∧ ((a, .lst (ns.map V.int)) ∈ L) ∧ (0 ≤ i) ∧ (i < ns.length) ∧ (ns.length ≤ 1000) ∧ ∀ (p : Addr), Tr ((p, .lst ((hdI ns i).map V.int)) :: L) (fun H => Q (.ref p) H)
theorem use_headings_of {L : Lg} {Q : VK} {E : XK} {a : Addr} {ns : List Int} {i : Int} (hm : (a, .lst (ns.map V.int)) ∈ L) (h0 : 0 ≤ i) (h1 : i < ns.length) (hz : ns.length ≤ 1000) (q : ∀ (p : Addr), Tr ((p, .lst ((hdI ns i).map V.int)) :: L) (fun H => Q (.ref p) H)) : Tr L fun H => sp_headings_of [.ref a, .int i] H Q E :=
  fun H l => ⟨a, ns, i, L, rfl, l, hm, h0, h1, hz, q⟩

theorem ok_headings_of (D : Df K mg "headings_of" s_headings_of) (B : Blt mg) : Ok P w K mg base CX0 1 "headings_of" ["outline", "line"] sp_headings_of := by
  obtain ⟨f, fd, hm, F⟩ := D
  refine ⟨f, fd, hm, F.kp, F.binds (fun _ _ _ _ _ _ us hl => match us, hl with | [_, _], _ => rfl), FunOkG F sc_headings_of (fun vs H Q E h => ?_) (fun cdv A outer s H vs Q E hr h => ?_), F.lk⟩
  · obtain ⟨_, _, _, _, rfl, _⟩ := h; rfl
  obtain ⟨a, ns, i, L, rfl, l, hm, h0, h1, hz, q⟩ := h
  refine ⟨_, PSs.nox (pss_cons (ps_set (i := 2) sc_headings_of.nd rfl (.inl rfl) (pe_lst pa_nil))
      (pss_cons (ps_set (i := 3) sc_headings_of.nd rfl (.inl rfl) (pe_ix ix_list (pv 0) (pv 1) (fun _ _ => rfl)))
      (pss_cons (ps_for PassesOwn.never rfl (pi_range3 rfl B.range_ (pa_cons (pe_op op_sub (pv 1) pe_int) (pa_cons (pe_un un_neg pe_int) (pa_cons (pe_un un_neg pe_int) pa_nil)))) (pg_name (i := 4) sc_headings_of.nd rfl (.inl rfl))
        (pss_one (ps_if (pt_cmpR op_lt (pe_ix ix_list (pv 0) (pv 4) (fun _ _ => rfl)) (pv 3) (nomark _)) (pss_cons (ps_set (i := 3) sc_headings_of.nd rfl (.inl rfl) (pe_ix ix_list (pv 0) (pv 4) (fun _ _ => rfl)))
      (pss_one (ps_expr (pe_bm PySem.F.plainAttrs_list PySem.F.slot_list_append PySem.F.type_list_append mt_append (pv 2) (pa_cons (pv 4) pa_nil)))))
        pss_nil)))
      (pss_one (ps_ret (pe_revL (pv 2))))))), ?_⟩
  rw [show L2.start ["outline", "line", "found", "depth", "other"] [.ref a, .int i] = [some (.ref a), some (.int i), none, none, none] from rfl]
  refine Tr.of ?_ l
  obtain ⟨R_hm, P_hm⟩ := Pick.of_mem hm
  repeat walk_at "hz"
  obtain ⟨R, hp⟩ := Pick.of_mem hm
  repeat walk_at "hz"
  rename_i p
  refine t_itR3 (n := i.toNat) (by have := RgC.neg (i := i - 1) (j := -1) (by omega) (by omega) (by omega) (by omega); rwa [show (i - 1 - -1).toNat = i.toNat by omega] at this) ?_
  refine t_forK wk_range3 (fun t ((acc, d, j4) : (List Int) × Int × Option V) => [some (.ref a), some (.int i), some (.ref p), some (.int d), j4]) (fun t ((acc, d, j4) : (List Int) × Int × Option V) => (p, .lst (acc.map V.int)) :: L) (fun t ((acc, d, j4) : (List Int) × Int × Option V) => acc.length ≤ t ∧ acc ++ hbk (atD ns) (i.toNat - t) d = hbk (atD ns) i.toNat (atD ns i)) ⟨([], atD ns i, _), ⟨by simp, by simp⟩, rfl, (by walk_at "sb")⟩ (fun _ _ _ => trivial) ?_ ?_
  · rintro t ⟨acc, d, j4⟩ v L' ht ⟨hl, he⟩ ⟨rfl, rfl⟩
    dsimp only at hl he ⊢
    rw [List.nil_append]
    obtain ⟨k, ek⟩ : ∃ k, i.toNat - t = k + 1 := ⟨i.toNat - t - 1, by omega⟩
    rw [ek, hbk] at he
    have e1 : i - 1 + (t : Int) * -1 = (k : Nat) := by omega
    rw [e1]
    repeat walk_at "hz"
    refine t_iteD (fun h2 => ?_) fun h2 => ?_
    · repeat walk_at "hz"
      refine t_pst (acc ++ [(k : Int)], atD ns (k : Nat), _) ⟨(by (try dsimp only); (try simp only [List.length_append, List.length_cons, List.length_nil, List.length_map, List.length_singleton]); omega), ?_⟩ rfl (by walk_at "sb")
      rw [if_pos h2] at he
      rw [List.append_assoc, show i.toNat - (t + 1) = k by omega]
      exact he
    · repeat walk_at "hz"
      refine t_pst (acc, d, _) ⟨(by (try dsimp only); (try simp only [List.length_append, List.length_cons, List.length_nil, List.length_map, List.length_singleton]); omega), ?_⟩ rfl (by walk_at "sb")
      rw [if_neg h2] at he
      rw [show i.toNat - (t + 1) = k by omega]
      exact he
  · rintro ⟨acc, d, j4⟩ ⟨hl, he⟩
    dsimp only at hl he ⊢
    rw [Nat.sub_self, hbk, List.append_nil] at he
    repeat walk_at "hz"
    rw [show hdI ns i = acc.reverse by unfold hdI; rw [← he]] at q
    exact (q _).sub (by walk_at "sb")
def sp_last_of_section  : Sp := fun vs H Q _ => ∃ (a : Addr) (ns : List Int) (i : Int) (L : Lg), vs = [.ref a, .int i] ∧ Led H (L) ∧ ((a, .lst (ns.map V.int)) ∈ L) ∧ (0 ≤ i) ∧ (i < ns.length) ∧ ∀ (e : Int), (SecEnd (atD ns) ns.length i e) → Tr (L) (fun H => Q (.int e) H)
theorem use_last_of_section {L : Lg} {Q : VK} {E : XK} {a : Addr} {ns : List Int} {i : Int} (hm : (a, .lst (ns.map V.int)) ∈ L) (h0 : 0 ≤ i) (h1 : i < ns.length) (q : ∀ (e : Int), (SecEnd (atD ns) ns.length i e) → Tr (L) (fun H => Q (.int e) H)) : Tr L fun H => sp_last_of_section [.ref a, .int i] H Q E :=
  fun H l => ⟨a, ns, i, L, rfl, l, hm, h0, h1, q⟩

theorem ok_last_of_section (D : Df K mg "last_of_section" s_last_of_section) (B : Blt mg) : Ok P w K mg base CX0 1 "last_of_section" ["outline", "line"] sp_last_of_section := by
  obtain ⟨f, fd, hm, F⟩ := D
  refine ⟨f, fd, hm, F.kp, F.binds (fun _ _ _ _ _ _ us hl => match us, hl with | [_, _], _ => rfl), FunOkG F sc_last_of_section (fun vs H Q E h => ?_) (fun cdv A outer s H vs Q E hr h => ?_), F.lk⟩
  · obtain ⟨_, _, _, _, rfl, _⟩ := h; rfl
  obtain ⟨a, ns, i, L, rfl, l, hm, h0, h1, q⟩ := h
  refine ⟨_, PSs.nox (pss_cons (ps_set (i := 2) sc_last_of_section.nd rfl (.inl rfl) (pv 1))
      (pss_cons (ps_while PassesOwn.never (PW.pt (pw_and (pt_cmpR op_lt (pe_op op_add (pv 2) pe_int) (pe_callB c_len rfl B.len_ boot_len (pa_cons (pv 0) pa_nil)) (nomark _)) (pw_and1 (pt_cmpR op_gt (pe_ix ix_list (pv 0) (pe_op op_add (pv 2) pe_int) (fun _ _ => rfl)) (pe_ix ix_list (pv 0) (pv 1) (fun _ _ => rfl)) (nomark _)))))
        (pss_one (ps_aug (i := 2) sc_last_of_section.nd rfl (.inl rfl) pe_int ip_add)))
      (pss_one (ps_ret (pv 2))))), ?_⟩
  rw [show L2.start ["outline", "line", "last"] [.ref a, .int i] = [some (.ref a), some (.int i), none] from rfl]
  refine Tr.of ?_ l
  obtain ⟨R_hm, P_hm⟩ := Pick.of_mem hm
  repeat walk_at "hz"
  obtain ⟨R, hp⟩ := Pick.of_mem hm
  repeat walk_at "hz"
  refine t_while (fun e => [some (.ref a), some (.int i), some (.int e)]) (fun _ => L) (fun e => i ≤ e ∧ e < ns.length ∧ ∀ k, i < k → k ≤ e → atD ns i < atD ns k) (fun e => (ns.length - e).toNat) ⟨i, ⟨Int.le_refl _, h1, fun k _ _ => by omega⟩, rfl, .refl⟩ ?_
  rintro e ⟨g1, g2, g3⟩
  refine ⟨decide (e + 1 < ns.length) && decide (atD ns i < atD ns (e + 1)), fun QB k => ?_, fun hb => ?_, fun hb => ?_⟩
  · repeat walk_at "hz"
    refine t_iteD (fun h2 => ?_) fun h2 => ?_
    · repeat walk_at "hz"
      rw [decide_eq_true h2, Bool.true_and] at k
      exact k
    · repeat walk_at "hz"
      rw [decide_eq_false h2, Bool.false_and] at k
      exact k
  · rw [Bool.and_eq_true, decide_eq_true_eq, decide_eq_true_eq] at hb
    repeat walk_at "hz"
    refine t_whl (e + 1) ⟨by omega, hb.1, fun k h3 h4 => ?_⟩ (by omega) rfl (by walk_at "sb")
    by_cases h5 : k = e + 1
    · rw [h5]; exact hb.2
    · exact g3 k h3 (by omega)
  · repeat walk_at "hz"
    refine q e ⟨g1, g2, g3, fun h => ?_⟩
    rw [decide_eq_true h, Bool.true_and, decide_eq_false_iff_not] at hb
    omega
/-! ### folds -/
def nextL : List Int → Bool
  | a :: b :: r => decide (a < b) && nextL (b :: r)
  | _ => true
theorem nextL_asc : ∀ {zs : List Int}, zs.Pairwise (· < ·) → nextL zs = true
  | [], _ => rfl
  | [a], _ => rfl
  | a :: b :: r, h => by
    have h1 := List.pairwise_cons.mp h
    rw [nextL, decide_eq_true (h1.1 b (.head _)), Bool.true_and]
    exact nextL_asc h1.2
theorem nextL_at : ∀ (zs : List Int), ((List.range (min zs.length (zs.drop 1).length)).map fun i => decide (atD zs (i : Nat) < atD (zs.drop 1) (i : Nat))).all id = nextL zs
  | [] => rfl
  | [a] => rfl
  | a :: b :: r => by
    have ih := nextL_at (b :: r)
    rw [nextL, ← ih]
    rw [show min (a :: b :: r).length ((a :: b :: r).drop 1).length = min (b :: r).length ((b :: r).drop 1).length + 1 by simp]
    rw [List.range_succ_eq_map, List.map_cons, List.all_cons, List.map_map]
    rfl
/-- a valid list of folds -/
structure FoldsOk (n : Nat) (ms : List Int) : Prop where
  asc : ms.Pairwise (· < ·)
  rg : ∀ m ∈ ms, 0 ≤ m ∧ m < n
theorem FoldsOk.len {n : Nat} {ms : List Int} (h : FoldsOk n ms) : ms.length ≤ n := few_ints n ms (h.asc.imp fun {a b} h => by omega) h.rg
/-- a heading of the line is folded -/
def Hid (f : Int → Int) (M : List Int) (k : Int) : Prop := ∃ i ∈ M, i < k ∧ ∀ j, i < j → j ≤ k → f i < f j
noncomputable def hidB (f : Int → Int) (M : List Int) (k : Int) : Bool := @decide (Hid f M k) (Classical.propDecidable _)
theorem hidB_iff {f : Int → Int} {M : List Int} {k : Int} : hidB f M k = true ↔ Hid f M k := by
  unfold hidB
  exact @decide_eq_true_iff _ (Classical.propDecidable _)
theorem hidB_no {f : Int → Int} {M : List Int} {k : Int} (h : ¬ Hid f M k) : hidB f M k = false := Bool.eq_false_iff.mpr fun e => h (hidB_iff.mp e)
/-- the lines that are left, up to a line -/
noncomputable def leftU (f : Int → Int) (M : List Int) (x : Int) : List Int := (rgI 0 x).filter fun k => !hidB f M k
theorem rg_app {a b c : Int} (h1 : a ≤ b) (h2 : b ≤ c) : rgI a c = rgI a b ++ rgI b c := by
  unfold rgI
  rw [show (c - a).toNat = (b - a).toNat + (c - b).toNat by omega, List.range_add, List.map_append, List.map_map]
  congr 1
  refine List.map_congr_left fun i _ => ?_
  show a + (((b - a).toNat + i : Nat) : Int) = b + i
  omega
theorem rg_one (a : Int) : rgI a (a + 1) = [a] := by
  unfold rgI
  rw [show (a + 1 - a).toNat = 1 by omega]
  simp
theorem rg_in {a b x : Int} : x ∈ rgI a b ↔ a ≤ x ∧ x < b := by
  unfold rgI
  rw [List.mem_map]
  constructor
  · rintro ⟨i, hi, rfl⟩
    have := List.mem_range.mp hi
    omega
  · rintro ⟨h0, h1⟩
    exact ⟨(x - a).toNat, List.mem_range.mpr (by omega), by omega⟩
theorem leftU_len (f : Int → Int) (M : List Int) (x : Int) : (leftU f M x).length ≤ x.toNat := by
  unfold leftU
  refine Nat.le_trans (List.length_filter_le _ _) ?_
  rw [rgI_len]
  omega
theorem leftU_step {f : Int → Int} {M : List Int} {x e : Int} (h0 : 0 ≤ x) (h1 : x ≤ e) (hx : ¬ Hid f M x) (hs : ∀ k, x < k → k ≤ e → Hid f M k) : leftU f M (e + 1) = leftU f M x ++ [x] := by
  unfold leftU
  rw [rg_app h0 (show x ≤ e + 1 by omega), rg_app (show x ≤ x + 1 by omega) (show x + 1 ≤ e + 1 by omega), rg_one, List.filter_append, List.filter_append]
  congr 1
  rw [show (rgI (x + 1) (e + 1)).filter (fun k => !hidB f M k) = [] from List.filter_eq_nil_iff.mpr fun k hk => by
    have := rg_in.mp hk
    rw [hidB_iff.mpr (hs k (by omega) (by omega))]
    decide]
  rw [List.filter_cons, hidB_no hx]
  rfl
theorem hid_next {f : Int → Int} {M : List Int} {x : Int} (hx : ¬ Hid f M x) (hm : x ∉ M) : ¬ Hid f M (x + 1) := by
  rintro ⟨i, im, il, ij⟩
  by_cases c : i = x
  · rw [c] at im; exact hm im
  · exact hx ⟨i, im, by omega, fun j a b => ij j a (by omega)⟩
theorem hid_after {f : Int → Int} {n : Int} {M : List Int} {x e : Int} (hx : ¬ Hid f M x) (he : SecEnd f n x e) (h1 : e + 1 < n) : ¬ Hid f M (e + 1) := by
  rintro ⟨i, im, il, ij⟩
  have st := he.stop h1
  have lo := he.lo
  by_cases c : i < x
  · exact hx ⟨i, im, c, fun j a b => ij j a (by omega)⟩
  · have a := ij (e + 1) (by omega) (Int.le_refl _)
    by_cases c2 : i = x
    · rw [c2] at a; omega
    · have := he.deep i (by omega) (by omega)
      omega

def sp_check_folds  : Sp := fun vs H Q _ => ∃ (a b : Addr) (ns ms : List Int) (L : Lg), vs = [.ref a, .ref b] ∧ Led H (L) ∧ ((a, .lst (ns.map V.int)) ∈ L) ∧ ((b, .lst (ms.map V.int)) ∈ L) ∧ (FoldsOk ns.length ms) ∧ (ns.length ≤ 1000) ∧ Tr (L) (fun H => Q (.non) H)
theorem use_check_folds {L : Lg} {Q : VK} {E : XK} {a b : Addr} {ns ms : List Int} (hm : (a, .lst (ns.map V.int)) ∈ L) (hb : (b, .lst (ms.map V.int)) ∈ L) (hf : FoldsOk ns.length ms) (hl : ns.length ≤ 1000) (q : Tr (L) (fun H => Q (.non) H)) : Tr L fun H => sp_check_folds [.ref a, .ref b] H Q E :=
  fun H l => ⟨a, b, ns, ms, L, rfl, l, hm, hb, hf, hl, q⟩

theorem ok_check_folds (D : Df K mg "check_folds" s_check_folds) (B : Blt mg) (k_is_integer : Ok P w K mg base CX0 1 "is_integer" ["value"] sp_is_integer) : Ok P w K mg base CX0 2 "check_folds" ["outline", "folds"] sp_check_folds := by
  obtain ⟨f, fd, hm, F⟩ := D
  refine ⟨f, fd, hm, F.kp, F.binds (fun _ _ _ _ _ _ us hl => match us, hl with | [_, _], _ => rfl), FunOkG F sc_check_folds (fun vs H Q E h => ?_) (fun cdv A outer s H vs Q E hr h => ?_), F.lk⟩
  · obtain ⟨_, _, _, _, _, rfl, _⟩ := h; rfl
  obtain ⟨a, b, ns, ms, L, rfl, l, hm, hb, hf, hl, q⟩ := h
  refine ⟨_, PSs.nox (pss_cons (ps_set (i := 2) sc_check_folds.nd rfl (.inl rfl) (pe_and (pe_callB c_is rfl B.isinstance_ boot_isinstance (pa_cons (pv 1) (pa_cons (pe_ty B.list_ boot_list) pa_nil))) (pe_one (pe_callB (cr_all rfl) rfl B.all_ boot_all (pa_cons (pe_lc (own := [("line", 3)]) (g := gName 3) (by rfl) sc_check_folds.nd (pi_list (pv 1)) (blkOk_by (own := [("line", 3)]) (N := ["outline", "folds", "is_valid", "line", "following"]) (sc := defScope s_check_folds) (by decide +kernel)) (fun _ _ _ _ _ => (pg_name (i := 3) sc_check_folds.nd rfl (.inl rfl))) (fun _ _ _ _ _ => pts_nil) (fun _ _ _ _ _ => (pe_and (pe_callG k_is_integer (hr.mono (by omega)) pas0 (pa_cons (pv 3) pa_nil)) (pe_one (pe_chain op_le op_lt pe_int (pv 3) (pe_callB (show CallR _ (.builtin "len") (rLen K) from c_len) rfl B.len_ boot_len (pa_cons (pv 0) pa_nil))))))) pa_nil)))))
      (pss_one (ps_if (PW.pt (pw_or (pt_not (pt_val (pv 2))) (pw_or1 (pt_not (pt_val (pe_callB (cr_all rfl) rfl B.all_ boot_all (pa_cons (pe_lc (own := [("line", 3), ("following", 4)]) (g := gTup _ 2 (gCons (gName 3) (gCons (gName 4) (gNil)))) (by rfl) sc_check_folds.nd (pi_zipA (by rfl) B.zip_ (pa_cons (pv 1) (pa_cons (pe_slice sl_list (pv 1) (po_some pe_int) po_none) pa_nil))) (blkOk_by (own := [("line", 3), ("following", 4)]) (N := ["outline", "folds", "is_valid", "line", "following"]) (sc := defScope s_check_folds) (by decide +kernel)) (fun _ _ _ _ _ => (pg_tup rfl (pgs_cons (pg_name (i := 3) sc_check_folds.nd rfl (.inl rfl)) (pgs_cons (pg_name (i := 4) sc_check_folds.nd rfl (.inl rfl)) pgs_nil)))) (fun _ _ _ _ _ => pts_nil) (fun _ _ _ _ _ => (pe_cmpR op_lt (pv 3) (pv 4) (nomark _)))) pa_nil))))))) pss_never
        pss_nil))), ?_⟩
  rw [show L2.start ["outline", "folds", "is_valid", "line", "following"] [.ref a, .ref b] = [some (.ref a), some (.ref b), none, none, none] from rfl]
  refine Tr.of ?_ l
  obtain ⟨R_hm, P_hm⟩ := Pick.of_mem hm
  obtain ⟨R_hb, P_hb⟩ := Pick.of_mem hb
  repeat walk_at "hz"
  have ml := hf.len
  obtain ⟨R, hp⟩ := Pick.of_mem hm
  obtain ⟨R', hp'⟩ := Pick.of_mem hb
  refine t_is (.lst hb) (by decide) ?_
  repeat walk_at "hz"
  refine t_lcMap (wk_list (xs := ms.map V.int)) (by rfl) ((List.replicate ms.length true).map V.bl) (by simp) (fun x => ⟨_, (by walk_at "pk")⟩) ?_ ?_
  · rintro D i v L' hi ⟨hv, rfl⟩
    obtain ⟨x, hx, rfl⟩ := map_get hv
    have xb := hf.rg x (List.mem_of_getElem? hx)
    rw [List.nil_append]
    repeat walk_at "hz"
    refine use_is_integer (.int x) ?_
    repeat walk_at "hz"
    rw [show decide (x < (ns.length : Int)) = true from decide_eq_true (by omega)]
    refine t_lcMp (by walk_at "pk") ?_ (by rw [sizeLine_eq]; simp; omega) (by walk_at "sb")
    rw [List.map_replicate, List.getElem?_replicate, if_pos (by simpa using hi)]
  intro D
  repeat walk_at "hz"
  refine t_all .head ?_
  rw [show (List.replicate ms.length true).all id = true by simp]
  repeat walk_at "hz"
  rw [cutI_after (by decide), show (1 : Int).toNat = 1 from rfl]
  repeat walk_at "hz"
  refine t_lcMap (wk_zip (xs := ms.map V.int) (ys := (ms.drop 1).map V.int)) (by rfl) (((List.range (min ms.length (ms.drop 1).length)).map fun i => decide (atD ms (i : Nat) < atD (ms.drop 1) (i : Nat))).map V.bl) (by simp) (fun x => ⟨⟨_, (by walk_at "pk")⟩, ⟨_, (by walk_at "pk")⟩⟩) ?_ ?_
  · rintro D2 i v L' hi2 ⟨T, xv, yv, rfl, hxv, hyv, rfl⟩
    obtain ⟨x, hx, rfl⟩ := map_get hxv
    obtain ⟨y, hy, rfl⟩ := map_get hyv
    rw [List.length_map, List.length_map] at hi2
    rw [List.cons_append, List.nil_append]
    repeat walk_at "hz"
    refine t_lcMp (by walk_at "pk") ?_ (by rw [sizeLine_eq]; simp; omega) (by walk_at "sb")
    rw [List.getElem?_map, List.getElem?_map, List.getElem?_range hi2]
    simp only [Option.map_some]
    rw [atD_nat hx, atD_nat hy]
  intro D2
  repeat walk_at "hz"
  refine t_all .head ?_
  rw [nextL_at, nextL_asc hf.asc]
  repeat walk_at "hz"
  exact q.sub (by walk_at "sb")
def sp_left_by  : Sp := fun vs H Q _ => ∃ (a b : Addr) (ns ms : List Int) (L : Lg), vs = [.ref a, .ref b] ∧ Led H (L) ∧ ((a, .lst (ns.map V.int)) ∈ L) ∧ ((b, .lst (ms.map V.int)) ∈ L) ∧ (ns.length ≤ 1000) ∧ (ms.length ≤ 1000) ∧ (∀ i ∈ ms, 0 ≤ i) ∧ ∀ (p : Addr), Tr ((p, .lst ((leftU (atD ns) ms ns.length).map V.int)) :: L) (fun H => Q (.ref p) H)
theorem use_left_by {L : Lg} {Q : VK} {E : XK} {a b : Addr} {ns ms : List Int} (hm : (a, .lst (ns.map V.int)) ∈ L) (hb : (b, .lst (ms.map V.int)) ∈ L) (hl : ns.length ≤ 1000) (hl2 : ms.length ≤ 1000) (h0 : ∀ i ∈ ms, 0 ≤ i) (q : ∀ (p : Addr), Tr ((p, .lst ((leftU (atD ns) ms ns.length).map V.int)) :: L) (fun H => Q (.ref p) H)) : Tr L fun H => sp_left_by [.ref a, .ref b] H Q E :=
  fun H l => ⟨a, b, ns, ms, L, rfl, l, hm, hb, hl, hl2, h0, q⟩

theorem ok_left_by (D : Df K mg "left_by" s_left_by) (B : Blt mg) (k_last_of_section : Ok P w K mg base CX0 1 "last_of_section" ["outline", "line"] sp_last_of_section) : Ok P w K mg base CX0 2 "left_by" ["outline", "folds"] sp_left_by := by
  obtain ⟨f, fd, hm, F⟩ := D
  refine ⟨f, fd, hm, F.kp, F.binds (fun _ _ _ _ _ _ us hl => match us, hl with | [_, _], _ => rfl), FunOkG F sc_left_by (fun vs H Q E h => ?_) (fun cdv A outer s H vs Q E hr h => ?_), F.lk⟩
  · obtain ⟨_, _, _, _, _, rfl, _⟩ := h; rfl
  obtain ⟨a, b, ns, ms, L, rfl, l, hm, hb, hl, hl2, h0, q⟩ := h
  refine ⟨_, PSs.nox (pss_cons (ps_setDc (i := 2) (own := [("line", 3)]) (g := gName 3) (by rfl) sc_left_by.nd rfl rfl (sw_trueD rfl rfl rfl (by decide +kernel)) (pi_list (pv 1)) (blkOk_by (own := [("line", 3)]) (N := ["outline", "folds", "is_folded", "line", "found"]) (sc := defScope s_left_by) (by decide +kernel)) (fun _ _ _ _ _ => (pg_name (i := 3) sc_left_by.nd rfl (.inl rfl))) (fun _ _ _ _ _ => pts_nil) (fun _ _ _ _ _ => (pv 3)) (fun _ _ _ _ _ => pe_bl))
      (pss_cons (ps_set (i := 4) sc_left_by.nd rfl (.inl rfl) (pe_lst pa_nil))
      (pss_cons (ps_set (i := 3) sc_left_by.nd rfl (.inl rfl) pe_int)
      (pss_cons (ps_while PassesOwn.never (pt_cmpR op_lt (pv 3) (pe_callB c_len rfl B.len_ boot_len (pa_cons (pv 0) pa_nil)) (nomark _))
        (pss_cons (ps_expr (pe_bm PySem.F.plainAttrs_list PySem.F.slot_list_append PySem.F.type_list_append mt_append (pv 4) (pa_cons (pv 3) pa_nil)))
      (pss_one (ps_set (i := 3) sc_left_by.nd rfl (.inl rfl) (pe_ifExp (pt_cmp (pc_din hr.u1 (pv 3) (pv 2))) (pe_op op_add (pe_callG k_last_of_section (hr.mono (by omega)) pas0 (pa_cons (pv 0) (pa_cons (pv 3) pa_nil))) pe_int) (pe_op op_add (pv 3) pe_int))))))
      (pss_one (ps_ret (pv 4))))))), ?_⟩
  rw [show L2.start ["outline", "folds", "is_folded", "line", "found"] [.ref a, .ref b] = [some (.ref a), some (.ref b), none, none, none] from rfl]
  refine Tr.of ?_ l
  obtain ⟨R_hm, P_hm⟩ := Pick.of_mem hm
  obtain ⟨R_hb, P_hb⟩ := Pick.of_mem hb
  repeat walk_at "hz"
  obtain ⟨R, hp⟩ := Pick.of_mem hm
  obtain ⟨R', hp'⟩ := Pick.of_mem hb
  repeat walk_at "hz"
  refine t_dcK (wk_list (xs := ms.map V.int)) (by rfl) L (fun i kvs => kvs.length ≤ i ∧ ∀ k, (dv kvs k).isSome = decide (k ∈ ms.take i)) (by walk_at "sb") ⟨Nat.le_refl _, fun k => by rw [List.take_zero]; rfl⟩ (fun x => ⟨_, (by walk_at "pk")⟩) ?_ ?_
  · rintro D i kvs v L' hi ⟨kl, hk⟩ ⟨hv, rfl⟩
    obtain ⟨x, hx, rfl⟩ := map_get hv
    rw [List.length_map] at hi
    rw [List.nil_append]
    repeat walk_at "hz"
    refine t_dcAdd (by walk_at "pk") (by rw [sizeLine_eq]; omega) ⟨Nat.le_trans (length_putK _ _ _) (by omega), fun k => ?_⟩ (by walk_at "sb")
    rw [dv_put, take_more hx]
    by_cases c : k = x
    · rw [if_pos c]
      exact (decide_eq_true (by simp [c])).symm
    · rw [if_neg c, hk]
      exact decide_eq_decide.mpr (by simp [c])
  rintro D kvs ⟨kl, hk⟩
  rw [List.length_map, List.take_length] at hk
  repeat walk_at "hz"
  rename_i p0
  refine t_whG (fun (x : Int) => [some (.ref a), some (.ref b), some (.ref D), some (.int x), some (.ref p0)]) (fun (x : Int) => (p0, .lst ((leftU (atD ns) ms x).map V.int)) :: (D, .dK kvs) :: L) (fun (x : Int) => 0 ≤ x ∧ x ≤ ns.length ∧ (x < ns.length → ¬ Hid (atD ns) ms x)) (fun (x : Int) => (ns.length - x).toNat) ⟨0, ⟨Int.le_refl _, by omega, fun _ ⟨i, im, il, _⟩ => by have := h0 i im; omega⟩, rfl, (by walk_at "sb")⟩ ?_
  rintro x ⟨x0, x1, hx⟩
  try dsimp only at x0 x1 hx ⊢
  have ll := leftU_len (atD ns) ms x
  repeat walk_at "hz"
  refine t_whB (fun c => ?_) fun c => ?_
  · have nh := hx c
    repeat walk_at "hz"
    rw [hk]
    refine t_iteD (fun g => ?_) fun g => ?_
    · repeat walk_at "hz"
      refine use_last_of_section (by walk_at "mb") x0 c fun e he => ?_
      have lo := he.lo
      have hi := he.hi
      have st := leftU_step x0 lo nh fun k k0 k1 => ⟨x, g, k0, fun j a b => he.deep j a (by omega)⟩
      repeat walk_at "hz"
      rw [← st]
      refine t_whl (e + 1) ⟨by omega, by omega, fun h => hid_after nh he h⟩ (by (try dsimp only); omega) rfl (by walk_at "sb")
    · repeat walk_at "hz"
      have st := leftU_step x0 (Int.le_refl x) nh fun k k0 k1 => by omega
      rw [← st]
      refine t_whl (x + 1) ⟨by omega, by omega, fun _ => hid_next nh g⟩ (by (try dsimp only); omega) rfl (by walk_at "sb")
  · obtain rfl : x = ns.length := by omega
    repeat walk_at "hz"
    exact (q _).sub (by walk_at "sb")
def sp_lines_left  : Sp := fun vs H Q _ => ∃ (a b : Addr) (ns ms : List Int) (L : Lg), vs = [.ref a, .ref b] ∧ Led H (L) ∧ ((a, .lst (ns.map V.int)) ∈ L) ∧ ((b, .lst (ms.map V.int)) ∈ L) ∧ (Outline ns) ∧ (FoldsOk ns.length ms) ∧ ∀ (p : Addr), Tr ((p, .lst ((leftU (atD ns) ms ns.length).map V.int)) :: L) (fun H => Q (.ref p) H)
theorem use_lines_left {L : Lg} {Q : VK} {E : XK} {a b : Addr} {ns ms : List Int} (hm : (a, .lst (ns.map V.int)) ∈ L) (hb : (b, .lst (ms.map V.int)) ∈ L) (ho : Outline ns) (hf : FoldsOk ns.length ms) (q : ∀ (p : Addr), Tr ((p, .lst ((leftU (atD ns) ms ns.length).map V.int)) :: L) (fun H => Q (.ref p) H)) : Tr L fun H => sp_lines_left [.ref a, .ref b] H Q E :=
  fun H l => ⟨a, b, ns, ms, L, rfl, l, hm, hb, ho, hf, q⟩

theorem ok_lines_left (D : Df K mg "lines_left" s_lines_left) (B : Blt mg) (k_check_outline : Ok P w K mg base CX0 3 "check_outline" ["outline"] sp_check_outline) (k_check_folds : Ok P w K mg base CX0 2 "check_folds" ["outline", "folds"] sp_check_folds) (k_left_by : Ok P w K mg base CX0 2 "left_by" ["outline", "folds"] sp_left_by) : Ok P w K mg base CX0 4 "lines_left" ["outline", "folds"] sp_lines_left := by
  obtain ⟨f, fd, hm, F⟩ := D
  refine ⟨f, fd, hm, F.kp, F.binds (fun _ _ _ _ _ _ us hl => match us, hl with | [_, _], _ => rfl), FunOkG F sc_lines_left (fun vs H Q E h => ?_) (fun cdv A outer s H vs Q E hr h => ?_), F.lk⟩
  · obtain ⟨_, _, _, _, _, rfl, _⟩ := h; rfl
  obtain ⟨a, b, ns, ms, L, rfl, l, hm, hb, ho, hf, q⟩ := h
  refine ⟨_, PSs.nox (pss_cons (ps_expr (pe_callG k_check_outline (hr.mono (by omega)) pas0 (pa_cons (pv 0) pa_nil)))
      (pss_cons (ps_expr (pe_callG k_check_folds (hr.mono (by omega)) pas0 (pa_cons (pv 0) (pa_cons (pv 1) pa_nil))))
      (pss_one (ps_ret (pe_callG k_left_by (hr.mono (by omega)) pas0 (pa_cons (pv 0) (pa_cons (pv 1) pa_nil))))))), ?_⟩
  rw [show L2.start ["outline", "folds"] [.ref a, .ref b] = [some (.ref a), some (.ref b)] from rfl]
  refine Tr.of ?_ l
  obtain ⟨R_hm, P_hm⟩ := Pick.of_mem hm
  obtain ⟨R_hb, P_hb⟩ := Pick.of_mem hb
  repeat walk_at "hz"
  have hl := ho.len
  have ml := hf.len
  refine use_check_outline hm ho ?_
  repeat walk_at "hz"
  refine use_check_folds hm hb hf (by omega) ?_
  repeat walk_at "hz"
  exact use_left_by hm hb (by omega) (by omega) (fun i hi => (hf.rg i hi).1) q
def sp_folded_outline  : Sp := fun vs H Q _ => ∃ (a b : Addr) (ns ms : List Int) (L : Lg), vs = [.ref a, .ref b] ∧ Led H (L) ∧ ((a, .lst (ns.map V.int)) ∈ L) ∧ ((b, .lst (ms.map V.int)) ∈ L) ∧ (Outline ns) ∧ (FoldsOk ns.length ms) ∧ ∀ (p : Addr), Tr ((p, .lst (((leftU (atD ns) ms ns.length).map (atD ns)).map V.int)) :: L) (fun H => Q (.ref p) H)
theorem use_folded_outline {L : Lg} {Q : VK} {E : XK} {a b : Addr} {ns ms : List Int} (hm : (a, .lst (ns.map V.int)) ∈ L) (hb : (b, .lst (ms.map V.int)) ∈ L) (ho : Outline ns) (hf : FoldsOk ns.length ms) (q : ∀ (p : Addr), Tr ((p, .lst (((leftU (atD ns) ms ns.length).map (atD ns)).map V.int)) :: L) (fun H => Q (.ref p) H)) : Tr L fun H => sp_folded_outline [.ref a, .ref b] H Q E :=
  fun H l => ⟨a, b, ns, ms, L, rfl, l, hm, hb, ho, hf, q⟩

theorem ok_folded_outline (D : Df K mg "folded_outline" s_folded_outline) (B : Blt mg) (k_lines_left : Ok P w K mg base CX0 4 "lines_left" ["outline", "folds"] sp_lines_left) : Ok P w K mg base CX0 5 "folded_outline" ["outline", "folds"] sp_folded_outline := by
  obtain ⟨f, fd, hm, F⟩ := D
  refine ⟨f, fd, hm, F.kp, F.binds (fun _ _ _ _ _ _ us hl => match us, hl with | [_, _], _ => rfl), FunOkG F sc_folded_outline (fun vs H Q E h => ?_) (fun cdv A outer s H vs Q E hr h => ?_), F.lk⟩
  · obtain ⟨_, _, _, _, _, rfl, _⟩ := h; rfl
  obtain ⟨a, b, ns, ms, L, rfl, l, hm, hb, ho, hf, q⟩ := h
  refine ⟨_, PSs.nox (pss_one (ps_ret (pe_lc (own := [("line", 2)]) (g := gName 2) (by rfl) sc_folded_outline.nd (pi_list (pe_callG k_lines_left (hr.mono (by omega)) pas0 (pa_cons (pv 0) (pa_cons (pv 1) pa_nil)))) (blkOk_by (own := [("line", 2)]) (N := ["outline", "folds", "line"]) (sc := defScope s_folded_outline) (by decide +kernel)) (fun _ _ _ _ _ => (pg_name (i := 2) sc_folded_outline.nd rfl (.inl rfl))) (fun _ _ _ _ _ => pts_nil) (fun _ _ _ _ _ => (pe_ix (show IxR _ (rIxL K) from ix_list) (pv 0) (pv 2) (fun _ _ => rfl)))))), ?_⟩
  rw [show L2.start ["outline", "folds", "line"] [.ref a, .ref b] = [some (.ref a), some (.ref b), none] from rfl]
  refine Tr.of ?_ l
  obtain ⟨R_hm, P_hm⟩ := Pick.of_mem hm
  obtain ⟨R_hb, P_hb⟩ := Pick.of_mem hb
  repeat walk_at "hz"
  have hl := ho.len
  obtain ⟨R, hp⟩ := Pick.of_mem hm
  refine use_lines_left hm hb ho hf fun p => ?_
  have ll := leftU_len (atD ns) ms ns.length
  repeat walk_at "hz"
  refine t_lcMap (wk_list (xs := (leftU (atD ns) ms ns.length).map V.int)) (by rfl) (((leftU (atD ns) ms ns.length).map (atD ns)).map V.int) (by simp) (fun x => ⟨_, (by walk_at "pk")⟩) ?_ ?_
  · rintro D i v L' hi ⟨hv, rfl⟩
    obtain ⟨x, hx, rfl⟩ := map_get hv
    have xr := rg_in.mp (List.mem_filter.mp (List.mem_of_getElem? hx)).1
    rw [List.nil_append]
    repeat walk_at "hz"
    exact t_lcMp (by walk_at "pk") (get_map _ (get_map _ hx)) (by rw [sizeLine_eq]; simp; omega) (by walk_at "sb")
  intro D
  repeat walk_at "hz"
  exact (q _).sub (by walk_at "sb")

/-! ### the law's own folds -/
def Anc (f : Int → Int) (k x : Int) : Prop := 0 ≤ x ∧ x < k ∧ ∀ j, x < j → j ≤ k → f x < f j
def sp_law_above  : Sp := fun vs H Q _ => ∃ (a : Addr) (ns : List Int) (k : Int) (L : Lg), vs = [.ref a, .int k] ∧ Led H (L) ∧ ((a, .lst (ns.map V.int)) ∈ L) ∧ (Outline ns) ∧ (0 ≤ k) ∧ (k < ns.length) ∧ ∀ (p : Addr) (hs : List Int), (∀ x, x ∈ hs ↔ Anc (atD ns) k x) → (hs.length ≤ 200) → Tr ((p, .lst (hs.map V.int)) :: L) (fun H => Q (.ref p) H)
theorem use_law_above {L : Lg} {Q : VK} {E : XK} {a : Addr} {ns : List Int} {k : Int} (hm : (a, .lst (ns.map V.int)) ∈ L) (ho : Outline ns) (h0 : 0 ≤ k) (h1 : k < ns.length) (q : ∀ (p : Addr) (hs : List Int), (∀ x, x ∈ hs ↔ Anc (atD ns) k x) → (hs.length ≤ 200) → Tr ((p, .lst (hs.map V.int)) :: L) (fun H => Q (.ref p) H)) : Tr L fun H => sp_law_above [.ref a, .int k] H Q E :=
  fun H l => ⟨a, ns, k, L, rfl, l, hm, ho, h0, h1, q⟩

theorem ok_law_above (D : Df K mg "_law_above" s_law_above) (B : Blt mg) : Ok P w K mg base CX0 1 "_law_above" ["depths", "spot"] sp_law_above := by
  obtain ⟨f, fd, hm, F⟩ := D
  refine ⟨f, fd, hm, F.kp, F.binds (fun _ _ _ _ _ _ us hl => match us, hl with | [_, _], _ => rfl), FunOkG F sc_law_above (fun vs H Q E h => ?_) (fun cdv A outer s H vs Q E hr h => ?_), F.lk⟩
  · obtain ⟨_, _, _, _, rfl, _⟩ := h; rfl
  obtain ⟨a, ns, k, L, rfl, l, hm, ho, h0, h1, q⟩ := h
  refine ⟨_, PSs.nox (pss_cons (ps_par (i := 2) (j := 3) (by rfl) sc_law_above.nd rfl rfl (by decide) rfl rfl (pa_cons (pe_lst pa_nil) (pa_cons (pe_op op_sub (pe_ix ix_list (pv 0) (pv 1) (fun _ _ => rfl)) pe_int) pa_nil)) (by rfl))
      (pss_cons (ps_for PassesOwn.never rfl (pi_range3 rfl B.range_ (pa_cons (pe_op op_sub (pv 1) pe_int) (pa_cons (pe_un un_neg pe_int) (pa_cons (pe_un un_neg pe_int) pa_nil)))) (pg_name (i := 4) sc_law_above.nd rfl (.inl rfl))
        (pss_one (ps_if (pt_cmpR op_eq (pe_ix ix_list (pv 0) (pv 4) (fun _ _ => rfl)) (pv 3) (nomark _)) (pss_cons (ps_expr (pe_bm PySem.F.plainAttrs_list PySem.F.slot_list_append PySem.F.type_list_append mt_append (pv 2) (pa_cons (pv 4) pa_nil)))
      (pss_one (ps_set (i := 3) sc_law_above.nd rfl (.inl rfl) (pe_op op_sub (pv 3) pe_int))))
        pss_nil)))
      (pss_one (ps_ret (pe_revL (pv 2)))))), ?_⟩
  rw [show L2.start ["depths", "spot", "found", "wanted", "one"] [.ref a, .int k] = [some (.ref a), some (.int k), none, none, none] from rfl]
  refine Tr.of ?_ l
  obtain ⟨R_hm, P_hm⟩ := Pick.of_mem hm
  repeat walk_at "hz"
  have hl := ho.len
  obtain ⟨R, hp⟩ := Pick.of_mem hm
  obtain ⟨k, rfl⟩ : ∃ j : Nat, k = (j : Int) := ⟨k.toNat, by omega⟩
  repeat walk_at "hz"
  rename_i p0
  refine t_itR3 (n := k) (by have := RgC.neg (i := (k : Int) - 1) (j := -1) (by omega) (by omega) (by omega) (by omega); rwa [show ((k : Int) - 1 - -1).toNat = k by omega] at this) ?_
  refine t_forK wk_range3 (fun t ((fs, w, j4) : (List Int) × Int × Option V) => [some (.ref a), some (.int k), some (.ref p0), some (.int w), j4]) (fun t ((fs, w, j4) : (List Int) × Int × Option V) => (p0, .lst (fs.map V.int)) :: L) (fun t ((fs, w, j4) : (List Int) × Int × Option V) => (∀ x, x ∈ fs ↔ ((k : Int) - t ≤ x ∧ x < k ∧ ∀ j, x < j → j ≤ k → atD ns x < atD ns j)) ∧ fs.length ≤ t ∧ (∀ j, (k : Int) - t ≤ j → j ≤ k → w + 1 ≤ atD ns j) ∧ ∃ j, (k : Int) - t ≤ j ∧ j ≤ k ∧ atD ns j = w + 1) ⟨([], atD ns k - 1, _), ⟨(fun x => ⟨(fun h => nomatch h), (fun h => by omega)⟩), Nat.le_refl _, (fun j a b => by rw [show j = (k : Int) by omega]; omega), k, by omega, by omega, by omega⟩, rfl, (by walk_at "sb")⟩ (fun _ _ _ => trivial) ?_ ?_
  · rintro t ⟨fs, w, j4⟩ v L' ht ⟨hf, fl, hw, jm, j1, j2, j3⟩ ⟨rfl, rfl⟩
    try dsimp only at hf fl hw jm j1 j2 j3 ⊢
    simp only [List.nil_append, List.cons_append]
    rw [show (k : Int) - 1 + (t : Int) * -1 = (k : Int) - 1 - t by omega]
    have up := ho.stp.up (k - 1 - t) (by omega)
    rw [show (((k - 1 - t : Nat) + 1 : Nat) : Int) = (k : Int) - t by omega, show ((k - 1 - t : Nat) : Int) = (k : Int) - 1 - t by omega] at up
    have lowt := hw ((k : Int) - t) (by omega) (by omega)
    repeat walk_at "hz"
    refine t_iteD (fun c => ?_) fun c => ?_
    · repeat walk_at "hz"
      have nf : ∀ x, x ∈ fs ++ [(k : Int) - 1 - t] ↔ ((k : Int) - ((t + 1 : Nat) : Int) ≤ x ∧ x < k ∧ ∀ j, x < j → j ≤ k → atD ns x < atD ns j) := fun x => by
        rw [List.mem_append, hf, List.mem_singleton]
        constructor
        · rintro (⟨a1, a2, a3⟩ | rfl)
          · exact ⟨by omega, a2, a3⟩
          · exact ⟨by omega, by omega, fun j b1 b2 => by have := hw j (by omega) b2; omega⟩
        · rintro ⟨a1, a2, a3⟩
          by_cases e : x = (k : Int) - 1 - t
          · exact .inr e
          · exact .inl ⟨by omega, a2, a3⟩
      have nw : ∀ j, (k : Int) - ((t + 1 : Nat) : Int) ≤ j → j ≤ k → w - 1 + 1 ≤ atD ns j := fun j b1 b2 => by
        by_cases e : j = (k : Int) - 1 - t
        · rw [e]; omega
        · have := hw j (by omega) b2; omega
      refine t_pst (fs ++ [(k : Int) - 1 - t], w - 1, _) ⟨nf, (by (try dsimp only); (try simp only [List.length_append, List.length_cons, List.length_nil, List.length_map, List.length_singleton]); omega), nw, (k : Int) - 1 - t, by omega, by omega, by dsimp only; omega⟩ rfl (by walk_at "sb")
    · repeat walk_at "hz"
      have nf : ∀ x, x ∈ fs ↔ ((k : Int) - ((t + 1 : Nat) : Int) ≤ x ∧ x < k ∧ ∀ j, x < j → j ≤ k → atD ns x < atD ns j) := fun x => by
        rw [hf]
        constructor
        · rintro ⟨a1, a2, a3⟩
          exact ⟨by omega, a2, a3⟩
        · rintro ⟨a1, a2, a3⟩
          refine ⟨?_, a2, a3⟩
          by_cases e : x = (k : Int) - 1 - t
          · have := a3 jm (by omega) j2
            rw [e] at this
            omega
          · omega
      have nw : ∀ j, (k : Int) - ((t + 1 : Nat) : Int) ≤ j → j ≤ k → w + 1 ≤ atD ns j := fun j b1 b2 => by
        by_cases e : j = (k : Int) - 1 - t
        · rw [e]; omega
        · exact hw j (by omega) b2
      refine t_pst (fs, w, _) ⟨nf, by dsimp only; omega, nw, jm, by omega, j2, j3⟩ rfl (by walk_at "sb")
  · rintro ⟨fs, w, j4⟩ ⟨hf, fl, hw, -⟩
    try dsimp only at hf fl hw ⊢
    repeat walk_at "hz"
    rw [show ((k : Int) - (k : Nat)) = 0 by omega] at hf
    exact (q _ fs.reverse (fun x => by rw [List.mem_reverse, hf]; rfl) (by rw [List.length_reverse]; omega)).sub (by walk_at "sb")
/-! ### lines of depth zero behind an outline -/
theorem chainI_zeros : ∀ (n : Nat) (b : Int), -1 ≤ b → chainI b (List.replicate n 0)
  | 0, _, _ => trivial
  | n + 1, b, h => ⟨by decide, by omega, chainI_zeros n 0 (by decide)⟩
theorem Outline.zeros {ns : List Int} (h : Outline ns) {k : Nat} (hk : 1 ≤ k) (hk2 : k ≤ 200) (m : Nat) : Outline ((ns ++ List.replicate m 0).take k) := by
  have hl := h.len
  have lb := lastD_bound (-1) ns h.chain hl.1
  refine outline_iff.mpr ⟨?_, ?_, chainI_take _ _ _ ((chainI_append _ _ _).mpr ⟨h.chain, chainI_zeros _ _ (by omega)⟩)⟩
  · rw [List.length_take, List.length_append]; omega
  · rw [List.length_take]; omega
theorem rgI_snoc (u : Nat) : rgI 0 ((u + 1 : Nat) : Int) = rgI 0 (u : Int) ++ [(u : Int)] := by
  unfold rgI
  rw [show (((u + 1 : Nat) : Int) - 0).toNat = u + 1 by omega, show ((u : Int) - 0).toNat = u by omega, List.range_succ, List.map_append, List.map_singleton, Int.zero_add]
theorem rgI_up {n : Int} (h : 0 ≤ n) : rgI 0 ((n.toNat : Nat) : Int) = rgI 0 n := by rw [Int.toNat_of_nonneg h]
theorem DtAll.rev {L : Lg} : ∀ {xs : List V} {ds : List PyData}, DtAll L xs ds → DtAll L xs.reverse ds.reverse
  | _, _, .nil => .nil
  | _, _, .cons h r => by rw [List.reverse_cons, List.reverse_cons]; exact r.rev.app (.cons h .nil)
theorem Prs.rev {L : Lg} {xs : List V} {ps : List (Int × Int)} (h : Prs L xs ps) : Prs L xs.reverse ps.reverse := by
  unfold Prs
  rw [List.map_reverse]
  exact DtAll.rev h
theorem Outline.topEx' {ns : List Int} (h : Outline ns) {s : Int} (hs : s ≤ ns.length - 1 - lastD (-1) ns) : ∃ t, TopIs (atD ns) ns.length s t := by
  obtain ⟨k, k0, k1, k2⟩ := h.top hs
  have key : ∀ m : Nat, (∃ k : Int, 0 ≤ k ∧ k < ns.length ∧ s ≤ k - atD ns k ∧ k < m) → ∃ t, TopIs (atD ns) ns.length s t := by
    intro m
    induction m with
    | zero => rintro ⟨k, a, b, c, d⟩; omega
    | succ m ih =>
      rintro ⟨k, a, b, c, d⟩
      by_cases e : ∃ k : Int, 0 ≤ k ∧ k < ns.length ∧ s ≤ k - atD ns k ∧ k < m
      · exact ih e
      · refine ⟨k, a, b, c, fun j j0 j1 => ?_⟩
        by_cases g : s ≤ j - atD ns j
        · exact absurd ⟨j, j0, by omega, g, by omega⟩ e
        · omega
  exact key (k.toNat + 1) ⟨k, k0, k1, k2, by omega⟩

/-! ### the pages of an outline -/
theorem lt_big {n : Int} (h0 : 0 ≤ n) (h1 : n ≤ 1000000) : n.natAbs < 2 ^ 1000 := by
  have z : (1000001 : Nat) < 2 ^ 1000 := by decide
  omega
theorem Outline.pop {ns : List Int} (h : Outline ns) (h1 : 1 < ns.length) : Outline ns.dropLast := by
  have hl := h.len
  rw [List.dropLast_eq_take]
  exact outline_iff.mpr ⟨by rw [List.length_take]; omega, by rw [List.length_take]; omega, chainI_take _ _ _ h.chain⟩

/-- the first lines of the pages from a line on -/
def pg (f : Int → Int) (n h line : Int) : List Int :=
  if _h : line < n ∧ f line < h then line :: pg f n h (line + (h - f line)) else []
termination_by (n - line).toNat
decreasing_by omega
theorem pg_yes {f : Int → Int} {n h line : Int} (h1 : line < n) (h2 : f line < h) : pg f n h line = line :: pg f n h (line + (h - f line)) := by
  rw [pg, dif_pos ⟨h1, h2⟩]
theorem pg_no {f : Int → Int} {n h line : Int} (h1 : ¬ line < n) : pg f n h line = [] := by
  rw [pg, dif_neg fun c => h1 c.1]
theorem pg_len {f : Int → Int} {n h : Int} : ∀ (k : Nat) (line : Int), (n - line).toNat ≤ k → (pg f n h line).length ≤ (n - line).toNat
  | k, line, hk => by
    by_cases c : line < n ∧ f line < h
    · rw [pg_yes c.1 c.2, List.length_cons]
      cases k with
      | zero => omega
      | succ k =>
        have := pg_len (f := f) (n := n) (h := h) k (line + (h - f line)) (by omega)
        omega
    · rw [pg, dif_neg c]
      exact Nat.zero_le _
/-- the pages are fewer than ever so many lines -/
theorem pg_short {f : Int → Int} {n h line : Int} (h0 : n ≤ line + (h - f line)) : (pg f n h line).length ≤ 1 := by
  by_cases c : line < n ∧ f line < h
  · rw [pg_yes c.1 c.2, pg_no (by omega)]
    exact Nat.le_refl _
  · rw [pg, dif_neg c]
    exact Nat.zero_le _
/-- every page's first line stands in the outline -/
theorem pg_mem {f : Int → Int} {n h : Int} : ∀ (k : Nat) (line x : Int), (n - line).toNat ≤ k → x ∈ pg f n h line → line ≤ x ∧ x < n
  | k, line, x, hk, hx => by
    by_cases c : line < n ∧ f line < h
    · rw [pg_yes c.1 c.2] at hx
      rcases List.mem_cons.mp hx with rfl | hx
      · exact ⟨Int.le_refl _, c.1⟩
      · cases k with
        | zero => omega
        | succ k =>
          have := pg_mem k _ x (by omega) hx
          omega
    · rw [pg, dif_neg c] at hx
      exact absurd hx (by simp)
/-! ### never more pages -/
theorem pg_le {f g : Int → Int} {n m h h' : Int} (l : Int → Int) (hh : h ≤ h') (mono : ∀ x y, 0 ≤ x → x ≤ y → y < n → x + (h - f x) ≤ y + (h - f y)) (inc : ∀ p, 0 ≤ p → p < m → 0 ≤ l p ∧ l p < n ∧ g p ≤ f (l p)) (up : ∀ p q, 0 ≤ p → p ≤ q → q < m → l p + (q - p) ≤ l q)
    (fd : ∀ x, 0 ≤ x → x < n → f x < h) (gd : ∀ p, 0 ≤ p → p < m → g p < h') : ∀ (k : Nat) (x p : Int), (m - p).toNat ≤ k → 0 ≤ x → 0 ≤ p → (p < m → x ≤ l p) → (pg g m h' p).length ≤ (pg f n h x).length := fun k => by
  induction k with
  | zero =>
    intro x p hk x0 p0 hx
    rw [pg_no (show ¬ p < m by omega)]
    exact Nat.zero_le _
  | succ k ih =>
    intro x p hk x0 p0 hx
    by_cases c : p < m
    · have lp := inc p p0 c
      have xl := hx c
      have m1 := mono x (l p) x0 xl lp.2.1
      have f1 := fd x x0 (by omega)
      have g1 := gd p p0 c
      rw [pg_yes c g1, pg_yes (show x < n by omega) f1, List.length_cons, List.length_cons]
      refine Nat.succ_le_succ (ih _ _ (by omega) (by omega) (by omega) fun c2 => ?_)
      have u := up p (p + (h' - g p)) p0 (by omega) c2
      omega
    · rw [pg_no c]
      exact Nat.zero_le _
theorem Outline.nxMono {ns : List Int} (ho : Outline ns) (h : Int) : ∀ x y : Int, 0 ≤ x → x ≤ y → y < ns.length → x + (h - atD ns x) ≤ y + (h - atD ns y) := fun x y x0 xy yn => by
  have := ho.mono x0 xy yn
  omega
theorem pg_le_id {f g : Int → Int} {n h h' : Int} (hh : h ≤ h') (mono : ∀ x y, 0 ≤ x → x ≤ y → y < n → x + (h - f x) ≤ y + (h - f y)) (inc : ∀ p, 0 ≤ p → p < n → g p ≤ f p) (fd : ∀ x, 0 ≤ x → x < n → f x < h) : (pg g n h' 0).length ≤ (pg f n h 0).length :=
  pg_le (fun p => p) hh mono (fun p a b => ⟨a, b, inc p a b⟩) (fun p q _ _ _ => by omega) fd (fun p a b => by have := inc p a b; have := fd p a b; omega) _ 0 0 (Nat.le_refl _) (by omega) (by omega) (fun _ => by omega)
theorem secEnd_ex (f : Int → Int) (n : Int) : ∀ (k : Nat) (x e : Int), (n - e).toNat ≤ k → x ≤ e → e < n → (∀ j, x < j → j ≤ e → f x < f j) → ∃ e', SecEnd f n x e' := fun k => by
  induction k with
  | zero => intro x e h1 h2 h3; omega
  | succ k ih =>
    intro x e h1 h2 h3 h4
    by_cases c : e + 1 < n ∧ f x < f (e + 1)
    · refine ih x (e + 1) (by omega) (by omega) c.1 fun j a b => ?_
      by_cases g : j = e + 1
      · rw [g]; exact c.2
      · exact h4 j a (by omega)
    · exact ⟨e, h2, h3, h4, fun g => by omega⟩
theorem lastD_map_snoc (f : Int → Int) (b : Int) (xs : List Int) (x : Int) : lastD b ((xs ++ [x]).map f) = f x := by
  rw [List.map_append]
  exact lastD_append b _ _
/-- what is left is an outline -/
theorem left_chain {ns : List Int} (ho : Outline ns) {M : List Int} : ∀ (k : Nat) (x : Int), (ns.length - x).toNat ≤ k → 0 ≤ x → x ≤ ns.length → (x < ns.length → ¬ Hid (atD ns) M x) → chainI (-1) ((leftU (atD ns) M x).map (atD ns)) →
    (x < ns.length → atD ns x ≤ lastD (-1) ((leftU (atD ns) M x).map (atD ns)) + 1) → chainI (-1) ((leftU (atD ns) M ns.length).map (atD ns)) := fun k => by
  induction k with
  | zero =>
    intro x h1 h2 h3 h4 h5 h6
    obtain rfl : x = ns.length := by omega
    exact h5
  | succ k ih =>
    intro x h1 h2 h3 h4 h5 h6
    by_cases c : x < ns.length
    · have nh := h4 c
      have ch : chainI (-1) ((leftU (atD ns) M x ++ [x]).map (atD ns)) := by
        rw [List.map_append]
        exact (chainI_append _ _ _).mpr ⟨h5, (ho.at h2 c).1, h6 c, trivial⟩
      by_cases m : x ∈ M
      · obtain ⟨e, he⟩ := secEnd_ex (atD ns) ns.length _ x x (Nat.le_refl _) (Int.le_refl _) c (fun j a b => by omega)
        have lo := he.lo
        have hi := he.hi
        have st := leftU_step h2 lo nh fun k k0 k1 => ⟨x, m, k0, fun j a b => he.deep j a (by omega)⟩
        rw [← st] at ch
        refine ih (e + 1) (by omega) (by omega) (by omega) (fun g => hid_after nh he g) ch fun g => ?_
        rw [st, lastD_map_snoc]
        have := he.stop g
        omega
      · have st := leftU_step (M := M) h2 (Int.le_refl x) nh fun k k0 k1 => by omega
        rw [← st] at ch
        refine ih (x + 1) (by omega) (by omega) (by omega) (fun _ => hid_next nh m) ch fun g => ?_
        rw [st, lastD_map_snoc]
        have := ho.stp.up x.toNat (by omega)
        rw [show ((x.toNat + 1 : Nat) : Int) = x + 1 by omega, show ((x.toNat : Nat) : Int) = x by omega] at this
        exact this
    · obtain rfl : x = ns.length := by omega
      exact h5
theorem leftU_first {f : Int → Int} {M : List Int} {x : Int} (h0 : ∀ i ∈ M, 0 ≤ i) (h1 : 0 < x) : ∃ r, leftU f M x = 0 :: r := by
  unfold leftU
  rw [rg_app (show (0 : Int) ≤ 0 + 1 by omega) (show (0 : Int) + 1 ≤ x by omega), rg_one, List.filter_append, List.filter_cons, hidB_no (fun ⟨i, im, il, _⟩ => by have := h0 i im; omega)]
  exact ⟨_, rfl⟩
theorem leftU_asc (f : Int → Int) (M : List Int) (x : Int) : (leftU f M x).Pairwise (· < ·) := by
  unfold leftU
  refine List.Pairwise.filter _ ?_
  unfold rgI
  exact List.pairwise_map.mpr ((List.pairwise_lt_range (n := _)).imp fun {a b} h => by omega)
theorem left_outline {ns : List Int} (ho : Outline ns) {M : List Int} (h0 : ∀ i ∈ M, 0 ≤ i) : Outline ((leftU (atD ns) M ns.length).map (atD ns)) := by
  have hl := ho.len
  obtain ⟨r, e⟩ := leftU_first (f := atD ns) h0 (show (0 : Int) < ns.length by omega)
  have ll := leftU_len (atD ns) M ns.length
  refine outline_iff.mpr ⟨by rw [e]; simp, by rw [List.length_map]; omega, left_chain ho _ 0 (Nat.le_refl _) (Int.le_refl _) (by omega) (fun _ ⟨i, im, il, _⟩ => by have := h0 i im; omega) trivial fun _ => ?_⟩
  show atD ns 0 ≤ -1 + 1
  have := ho.stp.zero
  omega
theorem asc_at {zs : List Int} (h : zs.Pairwise (· < ·)) : ∀ (d : Nat) (i : Nat), i + d < zs.length → zs.getD i 0 + d ≤ zs.getD (i + d) 0
  | 0, i, _ => by simp
  | d + 1, i, hd => by
    have a := asc_at h d i (by omega)
    have b := List.pairwise_iff_getElem.mp h (i + d) (i + d + 1) (by omega) (by omega) (by omega)
    have gd : ∀ (j : Nat) (hj : j < zs.length), zs.getD j 0 = zs[j] := fun j hj => by rw [List.getD_eq_getElem?_getD, List.getElem?_eq_getElem hj]; rfl
    rw [gd (i + d) (by omega)] at a
    rw [show i + (d + 1) = i + d + 1 by omega, gd (i + d + 1) (by omega)]
    omega
theorem atD_map (f : Int → Int) {zs : List Int} {p : Int} (h0 : 0 ≤ p) (h1 : p < zs.length) : atD (zs.map f) p = f (atD zs p) := by
  have e := atD_nat (get_map f (atD_get h0 h1))
  rwa [show ((p.toNat : Nat) : Int) = p by omega] at e
/-- folding never makes more pages necessary -/
theorem fold_pages {ns : List Int} (ho : Outline ns) {M : List Int} {h : Int} (hd : ∀ k : Int, 0 ≤ k → k < ns.length → atD ns k < h) :
    (pg (atD ((leftU (atD ns) M ns.length).map (atD ns))) ((leftU (atD ns) M ns.length).map (atD ns)).length h 0).length ≤ (pg (atD ns) ns.length h 0).length := by
  have asc := leftU_asc (atD ns) M ns.length
  have mem : ∀ p : Int, 0 ≤ p → p < (leftU (atD ns) M ns.length).length → 0 ≤ atD (leftU (atD ns) M ns.length) p ∧ atD (leftU (atD ns) M ns.length) p < ns.length := fun p p0 p1 => by
    have := atD_mem p0 p1
    exact rg_in.mp (List.mem_filter.mp this).1
  generalize leftU (atD ns) M ns.length = zs at *
  rw [List.length_map]
  refine pg_le (atD zs) (Int.le_refl h) (ho.nxMono h) (fun p p0 p1 => ?_) (fun p q p0 pq q1 => ?_) (fun x a b => hd x a b) (fun p p0 p1 => ?_) _ 0 0 (Nat.le_refl _) (by omega) (by omega) (fun c => (mem 0 (by omega) c).1)
  · rw [atD_map _ p0 p1]
    exact ⟨(mem p p0 p1).1, (mem p p0 p1).2, Int.le_refl _⟩
  · have a := asc_at asc (q - p).toNat p.toNat (by omega)
    rw [show p.toNat + (q - p).toNat = q.toNat by omega] at a
    unfold atD
    omega
  · rw [atD_map _ p0 p1]
    exact hd _ (mem p p0 p1).1 (mem p p0 p1).2

/-! ### the greatest sections between two lines -/
def An (f : Int → Int) (i k : Int) : Prop := i < k ∧ ∀ j, i < j → j ≤ k → f i < f j
inductive SW (f : Int → Int) (n last : Int) : Int → List (Int × Int) → Prop where
  | done {x : Int} : last ≤ x → SW f n last x []
  | sec {x e : Int} {fs : List (Int × Int)} : x < last → SecEnd f n x e → e < last → SW f n last (e + 1) fs → SW f n last x ((e - x, x) :: fs)
  | inn {x e : Int} {fs : List (Int × Int)} : x < last → SecEnd f n x e → last ≤ e → SW f n last (x + 1) fs → SW f n last x fs
theorem SW.uniq {f : Int → Int} {n last x : Int} {fs gs : List (Int × Int)} (h : SW f n last x fs) : SW f n last x gs → fs = gs := by
  induction h generalizing gs with
  | done c => intro g; cases g with
    | done _ => rfl
    | sec c2 _ _ _ => omega
    | inn c2 _ _ _ => omega
  | sec c s l _ ih => intro g; cases g with
    | done c2 => omega
    | sec _ s2 _ r => obtain rfl := s.uniq s2; rw [ih r]
    | inn _ s2 l2 _ => obtain rfl := s.uniq s2; omega
  | inn c s l _ ih => intro g; cases g with
    | done c2 => omega
    | sec _ s2 l2 _ => obtain rfl := s.uniq s2; omega
    | inn _ s2 _ r => exact ih r
theorem secEnd_at (f : Int → Int) (n : Int) : ∀ (k : Nat) (x e : Int), (n - e).toNat ≤ k → x ≤ e → e < n → (∀ j, x < j → j ≤ e → f x < f j) → ∃ e', SecEnd f n x e' := fun k => by
  induction k with
  | zero => intro x e h1 h2 h3; omega
  | succ k ih =>
    intro x e h1 h2 h3 h4
    by_cases c : e + 1 < n ∧ f x < f (e + 1)
    · refine ih x (e + 1) (by omega) (by omega) c.1 fun j a b => ?_
      by_cases g : j = e + 1
      · rw [g]; exact c.2
      · exact h4 j a (by omega)
    · exact ⟨e, h2, h3, h4, fun g => by omega⟩
theorem secEnd_of (f : Int → Int) {n x : Int} (h : x < n) : ∃ e, SecEnd f n x e := secEnd_at f n _ x x (Nat.le_refl _) (Int.le_refl _) h fun j a b => by omega
theorem SW.ex (f : Int → Int) {n last : Int} (hl : last < n) : ∀ (k : Nat) (x : Int), (last - x).toNat ≤ k → ∃ fs, SW f n last x fs := fun k => by
  induction k with
  | zero => intro x h; exact ⟨[], .done (by omega)⟩
  | succ k ih =>
    intro x h
    by_cases c : x < last
    · obtain ⟨e, he⟩ := secEnd_of f (n := n) (x := x) (by omega)
      have lo := he.lo
      by_cases g : e < last
      · obtain ⟨fs, r⟩ := ih (e + 1) (by omega)
        exact ⟨_, .sec c he g r⟩
      · obtain ⟨fs, r⟩ := ih (x + 1) (by omega)
        exact ⟨_, .inn c he (by omega) r⟩
    · exact ⟨[], .done (by omega)⟩
theorem SW.mem {f : Int → Int} {n last x : Int} {fs : List (Int × Int)} (h : SW f n last x fs) : ∀ p ∈ fs, x ≤ p.2 ∧ 0 ≤ p.1 ∧ p.2 + p.1 < last ∧ SecEnd f n p.2 (p.2 + p.1) := by
  induction h with
  | done _ => exact fun p hp => nomatch hp
  | sec c s l r ih =>
    rename_i x e fs
    intro p hp
    have lo := s.lo
    rcases List.mem_cons.mp hp with rfl | hp
    · exact ⟨Int.le_refl _, by dsimp only; omega, by dsimp only; omega, by dsimp only; rw [show x + (e - x) = e by omega]; exact s⟩
    · obtain ⟨a, b, c, d⟩ := ih p hp
      exact ⟨by omega, b, c, d⟩
  | inn c s l r ih =>
    intro p hp
    obtain ⟨a, b, c, d⟩ := ih p hp
    exact ⟨by omega, b, c, d⟩
theorem SW.asc {f : Int → Int} {n last x : Int} {fs : List (Int × Int)} (h : SW f n last x fs) : fs.Pairwise fun p q => p.2 + p.1 < q.2 := by
  induction h with
  | done _ => exact .nil
  | sec c s l r ih => exact List.pairwise_cons.mpr ⟨fun q hq => by have := (r.mem q hq).1; dsimp only; omega, ih⟩
  | inn c s l r ih => exact ih
theorem SW.len {f : Int → Int} {n last x : Int} {fs : List (Int × Int)} (h : SW f n last x fs) : fs.length ≤ (last - x).toNat := by
  induction h with
  | done _ => simp
  | sec c s l r ih => have := s.lo; rw [List.length_cons]; omega
  | inn c s l r ih => omega
/-- which lines these are -/
theorem SW.top {f : Int → Int} {n last x : Int} {fs : List (Int × Int)} (h : SW f n last x fs) (hl : last < n) : ∀ t, t ∈ fs.map (·.2) ↔ x ≤ t ∧ t < last ∧ ¬ An f t last ∧ ∀ i, x ≤ i → An f i t → An f i last := by
  induction h with
  | done c => intro t; constructor
              · intro h; cases h
              · rintro ⟨a, b, -⟩; omega
  | sec c s l r ih =>
    rename_i x e fs
    intro t
    have lo := s.lo
    have st := s.stop (by omega)
    have low : ∀ i, x ≤ i → i ≤ e → f (e + 1) ≤ f i := fun i a b => by
      by_cases g : i = x
      · rw [g]; exact st
      · have := s.deep i (by omega) b; omega
    have nx : ¬ An f x last := fun h => by have := h.2 (e + 1) (by omega) (by omega); omega
    rw [List.map_cons, List.mem_cons, ih t]
    constructor
    · rintro (rfl | ⟨a1, a2, a3, a4⟩)
      · exact ⟨Int.le_refl _, c, nx, fun i a b => by have := b.1; omega⟩
      · refine ⟨by omega, a2, a3, fun i a b => ?_⟩
        by_cases g : e + 1 ≤ i
        · exact a4 i g b
        · have := b.2 (e + 1) (by omega) a1
          have := low i a (by omega)
          omega
    · rintro ⟨a1, a2, a3, a4⟩
      by_cases g : t = x
      · exact .inl g
      · refine .inr ⟨?_, a2, a3, fun i a b => a4 i (by omega) b⟩
        by_cases g2 : e + 1 ≤ t
        · exact g2
        · exact absurd (a4 x (Int.le_refl _) ⟨by omega, fun j b1 b2 => s.deep j b1 (by omega)⟩) nx
  | inn c s l r ih =>
    rename_i x e fs
    intro t
    have ax : An f x last := ⟨c, fun j a b => s.deep j a (by omega)⟩
    rw [ih t]
    constructor
    · rintro ⟨a1, a2, a3, a4⟩
      refine ⟨by omega, a2, a3, fun i a b => ?_⟩
      by_cases g : i = x
      · rw [g]; exact ax
      · exact a4 i (by omega) b
    · rintro ⟨a1, a2, a3, a4⟩
      refine ⟨?_, a2, a3, fun i a b => a4 i (by omega) b⟩
      by_cases g : t = x
      · rw [g] at a3; exact absurd ax a3
      · omega
/-- how many lines are hidden by these folds -/
def selS (M : List Int) : List (Int × Int) → Int
  | [] => 0
  | p :: r => (if p.2 ∈ M then p.1 else 0) + selS M r
theorem selS_perm {M : List Int} {l m : List (Int × Int)} (h : l.Perm m) : selS M l = selS M m := by
  induction h with
  | nil => rfl
  | cons x _ ih => rw [selS, selS, ih]
  | swap x y l => rw [selS, selS, selS, selS]; omega
  | trans _ _ ih1 ih2 => exact ih1.trans ih2
theorem selS_congr {M M' : List Int} : ∀ {l : List (Int × Int)}, (∀ p ∈ l, p.2 ∈ M ↔ p.2 ∈ M') → selS M l = selS M' l
  | [], _ => rfl
  | p :: r, h => by
    rw [selS, selS, selS_congr fun q hq => h q (.tail _ hq)]
    by_cases c : p.2 ∈ M
    · rw [if_pos c, if_pos ((h p (.head _)).mp c)]
    · rw [if_neg c, if_neg fun g => c ((h p (.head _)).mpr g)]
noncomputable def keptN (f : Int → Int) (M : List Int) (a b : Int) : Int := ((rgI a b).filter fun k => !hidB f M k).length
theorem keptN_app (f : Int → Int) (M : List Int) {a b c : Int} (h1 : a ≤ b) (h2 : b ≤ c) : keptN f M a c = keptN f M a b + keptN f M b c := by
  unfold keptN
  rw [rg_app h1 h2, List.filter_append, List.length_append]; omega
theorem keptN_one {f : Int → Int} {M : List Int} {a : Int} (h : ¬ Hid f M a) : keptN f M a (a + 1) = 1 := by
  unfold keptN
  rw [rg_one, List.filter_cons, hidB_no h]; rfl
theorem keptN_none {f : Int → Int} {M : List Int} {a b : Int} (h : ∀ k, a ≤ k → k < b → Hid f M k) : keptN f M a b = 0 := by
  unfold keptN
  rw [List.filter_eq_nil_iff.mpr fun k hk => by
    have := rg_in.mp hk
    rw [hidB_iff.mpr (h k this.1 this.2)]
    decide]
  rfl
theorem keptN_all {f : Int → Int} {M : List Int} {a b : Int} (h0 : a ≤ b) (h : ∀ k, a ≤ k → k < b → ¬ Hid f M k) : keptN f M a b = b - a := by
  unfold keptN
  rw [List.filter_eq_self.mpr fun k hk => by
    have := rg_in.mp hk
    rw [hidB_no (h k this.1 this.2)]
    decide, rgI_len]
  omega
theorem SW.kept {f : Int → Int} {n last x : Int} {fs : List (Int × Int)} (h : SW f n last x fs) (hl : last < n) {M : List Int} (hx : x ≤ last) (nh : ¬ Hid f M x) (hM : ∀ m ∈ M, x ≤ m → m < last → m ∈ fs.map (·.2)) :
    keptN f M x last = last - x - selS M fs ∧ ¬ Hid f M last := by
  induction h with
  | done c =>
    rename_i x
    obtain rfl : x = last := by omega
    refine ⟨?_, nh⟩
    rw [keptN_none fun k a b => by omega, selS]; omega
  | sec c s l r ih =>
    rename_i x e fs
    have lo := s.lo
    obtain ⟨i1, i2⟩ := ih (by omega) (hid_after nh s (by omega)) fun m hm a b => by
      rcases List.mem_cons.mp (hM m hm (by omega) b) with e1 | h
      · dsimp only at e1; omega
      · exact h
    refine ⟨?_, i2⟩
    rw [keptN_app f M (show x ≤ x + 1 by omega) (by omega), keptN_app f M (show x + 1 ≤ e + 1 by omega) (by omega), i1, keptN_one nh, selS]
    by_cases m : x ∈ M
    · rw [if_pos m, keptN_none fun k a b => ⟨x, m, by omega, fun j c1 c2 => s.deep j c1 (by omega)⟩]
      omega
    · have ka := keptN_all (f := f) (M := M) (a := x + 1) (b := e + 1) (by omega) fun k a b ⟨i, im, il, ij⟩ => ?_
      · rw [if_neg m, ka]; omega
      by_cases g : i < x
      · exact nh ⟨i, im, g, fun j c1 c2 => ij j c1 (by omega)⟩
      · rcases List.mem_cons.mp (hM i im (by omega) (by omega)) with e1 | h
        · dsimp only at e1
          rw [e1] at im
          exact m im
        · obtain ⟨p, hp, e1⟩ := List.mem_map.mp h
          have := (r.mem p hp).1
          omega
  | inn c s l r ih =>
    rename_i x e fs
    have nm : x ∉ M := fun h => by
      obtain ⟨p, hp, e1⟩ := List.mem_map.mp (hM x h (Int.le_refl _) c)
      have := (r.mem p hp).1
      omega
    obtain ⟨i1, i2⟩ := ih (by omega) (hid_next nh nm) fun m hm a b => hM m hm (by omega) b
    refine ⟨?_, i2⟩
    rw [keptN_app f M (show x ≤ x + 1 by omega) (by omega), i1, keptN_one nh]
    omega
/-! ### as few folds as possible -/
def grF : Int → List (Int × Int) → List Int
  | _, [] => []
  | m, p :: r => if 0 < m ∧ 0 < p.1 then p.2 :: grF (m - p.1) r else grF m r
def grM : Int → List (Int × Int) → Int
  | m, [] => m
  | m, p :: r => if 0 < m ∧ 0 < p.1 then grM (m - p.1) r else grM m r
theorem grF_mem : ∀ {m : Int} {qs : List (Int × Int)} {t : Int}, t ∈ grF m qs → t ∈ qs.map (·.2)
  | m, p :: r, t, h => by
    rw [grF] at h
    split at h
    · rcases List.mem_cons.mp h with rfl | h
      · exact .head _
      · exact .tail _ (grF_mem h)
    · exact .tail _ (grF_mem h)
theorem grF_nil {m : Int} (h : m ≤ 0) : ∀ qs : List (Int × Int), grF m qs = []
  | [] => rfl
  | p :: r => by rw [grF, if_neg (fun e => by omega), grF_nil h r]
theorem grM_nil {m : Int} (h : m ≤ 0) : ∀ qs : List (Int × Int), grM m qs = m
  | [] => rfl
  | p :: r => by rw [grM, if_neg (fun e => by omega), grM_nil h r]
theorem grF_len : ∀ (m : Int) (qs : List (Int × Int)), (grF m qs).length ≤ qs.length
  | _, [] => Nat.le_refl _
  | m, p :: r => by
    have := grF_len (m - p.1) r
    have := grF_len m r
    rw [grF]
    split <;> (simp only [List.length_cons]; omega)
theorem grF_nodup : ∀ {m : Int} {qs : List (Int × Int)}, (qs.map (·.2)).Nodup → (grF m qs).Nodup
  | _, [], _ => .nil
  | m, p :: r, h => by
    have h := List.nodup_cons.mp h
    rw [grF]
    split
    · exact List.nodup_cons.mpr ⟨fun g => h.1 (grF_mem g), grF_nodup h.2⟩
    · exact grF_nodup h.2
/-- the sum of the first ones -/
def frS (k : Nat) (qs : List (Int × Int)) : Int := ((qs.map (·.1)).take k).sum
theorem frS_zero (qs : List (Int × Int)) : frS 0 qs = 0 := rfl
theorem frS_nil (k : Nat) : frS k [] = 0 := by unfold frS; simp
theorem frS_cons (k : Nat) (p : Int × Int) (qs : List (Int × Int)) : frS (k + 1) (p :: qs) = p.1 + frS k qs := by
  unfold frS
  rw [List.map_cons, List.take_succ_cons, List.sum_cons]
theorem frS_pos {qs : List (Int × Int)} (h : ∀ p ∈ qs, 0 ≤ p.1) : ∀ k, 0 ≤ frS k qs := fun k => by
  induction qs generalizing k with
  | nil => rw [frS_nil]; decide
  | cons p r ih =>
    cases k with
    | zero => rw [frS_zero]; decide
    | succ k =>
      rw [frS_cons]
      have := ih (fun q hq => h q (.tail _ hq)) k
      have := h p (.head _)
      omega
theorem frS_all (qs : List (Int × Int)) {k : Nat} (h : qs.length ≤ k) : frS k qs = frS qs.length qs := by
  unfold frS
  rw [List.take_of_length_le (by rw [List.length_map]; exact h), List.take_of_length_le (by rw [List.length_map]; exact Nat.le_refl _)]
theorem gr_le : ∀ {qs : List (Int × Int)} {m : Int}, (∀ p ∈ qs, 0 ≤ p.1) → (grM m qs ≤ 0 ↔ m ≤ frS qs.length qs)
  | [], m, _ => by rw [grM, List.length_nil, frS_zero]
  | p :: r, m, h => by
    have hp := h p (.head _)
    have hr := fun q hq => h q (.tail _ hq)
    have s0 := frS_pos hr r.length
    rw [grM, List.length_cons, frS_cons]
    split
    · rw [gr_le hr]; omega
    · rename_i c
      rw [gr_le hr]
      omega
theorem gr_len : ∀ {qs : List (Int × Int)} {m : Int}, (∀ p ∈ qs, 0 ≤ p.1) → qs.Pairwise (fun a b => b.1 ≤ a.1) → grM m qs ≤ 0 → m ≤ frS (grF m qs).length qs ∧ ∀ k, m ≤ frS k qs → (grF m qs).length ≤ k
  | [], m, _, _, g => by
    rw [grM] at g
    rw [grF, List.length_nil, frS_zero]
    exact ⟨g, fun _ _ => Nat.zero_le _⟩
  | p :: r, m, h, d, g => by
    have hp := h p (.head _)
    have hr := fun q hq => h q (.tail _ hq)
    have d := List.pairwise_cons.mp d
    by_cases m0 : m ≤ 0
    · rw [grF_nil m0, List.length_nil, frS_zero]
      exact ⟨m0, fun _ _ => Nat.zero_le _⟩
    by_cases c : 0 < p.1
    · rw [grM, if_pos ⟨by omega, c⟩] at g
      obtain ⟨i1, i2⟩ := gr_len hr d.2 g
      rw [grF, if_pos ⟨by omega, c⟩, List.length_cons, frS_cons]
      refine ⟨by omega, fun k hk => ?_⟩
      cases k with
      | zero => rw [frS_zero] at hk; omega
      | succ k =>
        rw [frS_cons] at hk
        exact Nat.succ_le_succ (i2 k (by omega))
    · have z : ∀ q ∈ p :: r, q.1 = 0 := fun q hq => by
        rcases List.mem_cons.mp hq with rfl | hq
        · omega
        · have := d.1 q hq; have := hr q hq; omega
      have zs : ∀ (l : List (Int × Int)), (∀ q ∈ l, q.1 = 0) → ∀ k, frS k l = 0 := fun l => by
        induction l with
        | nil => intro _ k; exact frS_nil k
        | cons q l ih =>
          intro hz k
          cases k with
          | zero => rfl
          | succ k => rw [frS_cons, hz q (.head _), ih (fun x hx => hz x (.tail _ hx)) k]; rfl
      have := (gr_le h).mp g
      rw [zs _ z] at this
      omega
theorem gr_sum : ∀ {qs : List (Int × Int)} {m : Int}, (qs.map (·.2)).Nodup → selS (grF m qs) qs = m - grM m qs
  | [], m, _ => by rw [selS, grM]; omega
  | p :: r, m, h => by
    have h := List.nodup_cons.mp h
    rw [selS, grF, grM]
    split
    · rw [if_pos (.head _), selS_congr (M' := grF (m - p.1) r) fun q hq => ?_, gr_sum h.2]
      · omega
      · constructor
        · intro g
          rcases List.mem_cons.mp g with e | g
          · exact absurd (List.mem_map.mpr ⟨q, hq, e⟩) h.1
          · exact g
        · exact fun g => .tail _ g
    · rw [if_neg fun g => h.1 (grF_mem g), gr_sum h.2]; omega
theorem perm_uniq {α : Type} {R : α → α → Prop} (anti : ∀ a b, R a b → R b a → a = b) : ∀ {l m : List α}, l.Perm m → l.Pairwise R → m.Pairwise R → l = m
  | [], m, h, _, _ => by rw [List.nil_perm.mp h]
  | a :: l, [], h, _, _ => by simp at h
  | a :: l, b :: m, h, h1, h2 => by
    have g1 := List.pairwise_cons.mp h1
    have g2 := List.pairwise_cons.mp h2
    have e : a = b := by
      rcases List.mem_cons.mp (h.mem_iff.mp (.head _) : a ∈ b :: m) with e | ha
      · exact e
      · rcases List.mem_cons.mp (h.mem_iff.mpr (.head _) : b ∈ a :: l) with e | hb
        · exact e.symm
        · exact anti a b (g1.1 b hb) (g2.1 a ha)
    subst e
    rw [perm_uniq anti (List.perm_cons _ |>.mp h) g1.2 g2.2]
theorem lexLe_anti {a b : Int × Int} (h1 : lexLe a b) (h2 : lexLe b a) : a = b := by
  unfold lexLe at h1 h2
  exact Prod.ext (by omega) (by omega)
/-- what folds_to_show answers -/
def FT (ns : List Int) (h x y : Int) (r : Option (List Int)) : Prop := ∃ fs qs, SW (atD ns) ns.length (max x y) (min x y) fs ∧ qs.Perm fs ∧ qs.Pairwise (fun a b => lexLe b a) ∧
  ((grM (max x y - min x y + atD ns (min x y) - h + 1) qs ≤ 0 ∧ ∃ ms, r = some ms ∧ ms.Perm (grF (max x y - min x y + atD ns (min x y) - h + 1) qs) ∧ ms.Pairwise (· ≤ ·)) ∨ (0 < grM (max x y - min x y + atD ns (min x y) - h + 1) qs ∧ r = none))
theorem FT.uniq {ns : List Int} {h x y : Int} {r r' : Option (List Int)} (a : FT ns h x y r) (b : FT ns h x y r') : r = r' := by
  obtain ⟨fs, qs, a1, a2, a3, a4⟩ := a
  obtain ⟨gs, rs, b1, b2, b3, b4⟩ := b
  obtain rfl := a1.uniq b1
  obtain rfl := perm_uniq (R := fun a b => lexLe b a) (fun a b h1 h2 => lexLe_anti h2 h1) (a2.trans b2.symm) a3 b3
  rcases a4 with ⟨c1, ms, rfl, d1, d2⟩ | ⟨c1, rfl⟩
  · rcases b4 with ⟨e1, ms', rfl, f1, f2⟩ | ⟨e1, rfl⟩
    · rw [perm_uniq (R := (· ≤ ·)) (fun a b h1 h2 => Int.le_antisymm h1 h2) (d1.trans f1.symm) d2 f2]
    · omega
  · rcases b4 with ⟨e1, ms', rfl, f1, f2⟩ | ⟨e1, rfl⟩
    · omega
    · rfl
theorem FT.swap {ns : List Int} {h x y : Int} {r : Option (List Int)} (a : FT ns h x y r) : FT ns h y x r := by
  unfold FT at a ⊢
  rw [Int.max_comm, Int.min_comm] at a
  exact a
inductive FtV (ns : List Int) (h x y : Int) : V → Lg → Prop where
  | no {N : Lg} : FT ns h x y none → FtV ns h x y .non N
  | yes {p : Addr} {ms : List Int} {N : Lg} : FT ns h x y (some ms) → FtV ns h x y (.ref p) ((p, .lst (ms.map V.int)) :: N)
def optV : Option (List Int) → V
  | none => .non
  | some ms => .int ms.length
theorem Prs.keep {M L : Lg} (s : ∀ t xs, (t, HO.tup xs) ∈ M → (t, HO.tup xs) ∈ L) : ∀ {ys : List V} {qs : List (Int × Int)}, Prs M ys qs → Prs L ys qs
  | _, [], h => by
    have := h.len
    rw [List.length_eq_zero_iff.mp (this.trans rfl)]
    exact .nil
  | ys, q :: qs, h => by
    unfold Prs at h ⊢
    rw [List.map_cons] at h ⊢
    cases h with
    | cons h1 h2 =>
      obtain ⟨T, rfl, m⟩ := Dt.inv h1
      exact .cons (.pr (s _ _ m)) (Prs.keep s (qs := qs) h2)

theorem first_fl {α : Type} (b : Nat → Bool) (o : Nat → α) : ∀ n : Nat, ∃ j, j ≤ n ∧ (∀ i, i < j → b i = false) ∧ ((j = n ∧ fl b o n = []) ∨ (j < n ∧ b j = true ∧ ∃ r, fl b o n = o j :: r))
  | 0 => ⟨0, Nat.le_refl _, fun i h => absurd h (Nat.not_lt_zero i), .inl ⟨rfl, rfl⟩⟩
  | n + 1 => by
    obtain ⟨j, h1, h2, h3⟩ := first_fl b o n
    rcases h3 with ⟨rfl, h4⟩ | ⟨h3, h4, r, h5⟩
    · cases h : b j with
      | true => exact ⟨j, by omega, h2, .inr ⟨by omega, h, [], by rw [fl_succ, if_pos h, h4]; rfl⟩⟩
      | false =>
        refine ⟨j + 1, Nat.le_refl _, fun i hi => ?_, .inl ⟨rfl, by rw [fl_succ, if_neg (by rw [h]; decide), h4]⟩⟩
        by_cases e : i = j
        · rw [e]; exact h
        · exact h2 i (by omega)
    · refine ⟨j, by omega, h2, .inr ⟨by omega, h4, ?_⟩⟩
      rw [fl_succ, h5]
      split
      · exact ⟨_, rfl⟩
      · exact ⟨_, rfl⟩
/-! ### views, by the ints -/
/-- headings and pushed headings, when t is the top line at s -/
def vwH (ns : List Int) (s t : Int) : List Int :=
  if 0 < t - atD ns t - s then hdI ns t ++ cutI (hdI ns (t - 1)) (some (-(t - atD ns t - s))) none else hdI ns t
/-- a view of h rows -/
def vwI (ns : List Int) (h s t : Int) : List Int := cutI (vwH ns s t ++ rgI t ns.length) none (some h)
theorem vwI_take {ns : List Int} {h s t : Int} (h0 : 0 ≤ h) : vwI ns h s t = (vwH ns s t ++ rgI t ns.length).take h.toNat := by
  unfold vwI; rw [cutI_upto h0]
theorem cutI_le (ns : List Int) (lo hi : Option Int) : (cutI ns lo hi).length ≤ ns.length := by
  unfold cutI
  rw [List.length_take, List.length_drop]; omega
theorem vwH_len (ns : List Int) {s t : Int} (ht : 0 ≤ t) : (vwH ns s t).length ≤ 2 * t.toNat := by
  have a := hdI_len ns t
  have b := hdI_len ns (t - 1)
  unfold vwH
  split
  · have := cutI_le (hdI ns (t - 1)) (some (-(t - atD ns t - s))) none
    rw [List.length_append]; omega
  · omega
theorem cutI_map (f : Int → Int) (ns : List Int) (lo hi : Option Int) : cutI (ns.map f) lo hi = (cutI ns lo hi).map f := by
  unfold cutI
  rw [List.length_map, List.map_take, List.map_drop]
/-! ### an outline behind another -/
theorem atD_left {A B : List Int} {k : Int} (h0 : 0 ≤ k) (h1 : k < A.length) : atD (A ++ B) k = atD A k := by
  obtain ⟨i, rfl⟩ : ∃ i : Nat, k = (i : Int) := ⟨k.toNat, by omega⟩
  have hi : i < A.length := by omega
  have e : A[i]? = some A[i] := List.getElem?_eq_getElem hi
  rw [atD_nat e, atD_nat (ns := A ++ B) (by rw [List.getElem?_append_left hi]; exact e)]
theorem atD_right {A B : List Int} {k : Int} (h0 : 0 ≤ k) (h1 : k < B.length) : atD (A ++ B) (A.length + k) = atD B k := by
  obtain ⟨i, rfl⟩ : ∃ i : Nat, k = (i : Int) := ⟨k.toNat, by omega⟩
  have hi : i < B.length := by omega
  have e : B[i]? = some B[i] := List.getElem?_eq_getElem hi
  rw [atD_nat e]
  have e2 : (A ++ B)[A.length + i]? = some B[i] := by rw [List.getElem?_append_right (by omega), Nat.add_sub_cancel_left]; exact e
  have := atD_nat e2
  rwa [Int.natCast_add] at this
theorem Outline.join {A B : List Int} (hA : Outline A) (hB : Outline B) (h : A.length + B.length ≤ 200) : Outline (A ++ B) := by
  have a := hA.len
  refine outline_iff.mpr ⟨by rw [List.length_append]; omega, by rw [List.length_append]; exact h, ?_⟩
  have l0 := lastD_bound (-1) A hA.chain a.1
  refine (chainI_append _ _ _).mpr ⟨hA.chain, ?_⟩
  match B, hB.chain with
  | [], _ => trivial
  | e :: r, c => exact ⟨c.1, by have := c.2.1; omega, c.2.2⟩
theorem hbk_none {f : Int → Int} : ∀ (k : Nat), (∀ i : Nat, i < k → 0 ≤ f i) → hbk f k 0 = []
  | 0, _ => rfl
  | k + 1, h => by
    rw [hbk, if_neg (by have := h k (by omega); omega)]
    exact hbk_none k fun i hi => h i (by omega)
theorem hbk_same {f g : Int → Int} : ∀ (k : Nat) (d : Int), (∀ i : Nat, i < k → f i = g i) → hbk f k d = hbk g k d
  | 0, _, _ => rfl
  | k + 1, d, h => by
    rw [hbk, hbk, h k (by omega), hbk_same k (g k) (fun i hi => h i (by omega)), hbk_same k d (fun i hi => h i (by omega))]
theorem hbk_right {A B : List Int} (hB : Outline B) (hC : Outline (A ++ B)) : ∀ (k : Nat) (d : Int), k ≤ B.length → 0 ≤ d → (k = 0 → d = 0) →
    hbk (atD (A ++ B)) (A.length + k) d = (hbk (atD B) k d).map fun x => (A.length : Int) + x
  | 0, d, _, _, h => by
    rw [h rfl]
    refine hbk_none _ fun i hi => (hC.at (i := (i : Nat)) (by omega) ?_).1
    rw [List.length_append]; omega
  | k + 1, d, hk, hd, _ => by
    have e : atD (A ++ B) ((A.length + k : Nat) : Int) = atD B (k : Nat) := by
      have := atD_right (A := A) (B := B) (k := (k : Nat)) (by omega) (by omega)
      rwa [← Int.natCast_add] at this
    have n := hB.at (i := (k : Nat)) (by omega) (by omega)
    show hbk (atD (A ++ B)) ((A.length + k) + 1) d = _
    rw [hbk, hbk, e]
    by_cases c : atD B (k : Nat) < d
    · rw [if_pos c, if_pos c, hbk_right hB hC k _ (by omega) n.1 (fun z => by subst z; omega), List.map_cons, Int.natCast_add]
    · rw [if_neg c, if_neg c, hbk_right hB hC k _ (by omega) hd (fun z => by subst z; omega)]
theorem hdI_right {A B : List Int} (hB : Outline B) (hC : Outline (A ++ B)) {t : Int} (h0 : 0 ≤ t) (h1 : t < B.length) :
    hdI (A ++ B) (A.length + t) = (hdI B t).map fun x => (A.length : Int) + x := by
  have n := hB.at h0 h1
  unfold hdI
  rw [atD_right h0 h1, show ((A.length : Int) + t).toNat = A.length + t.toNat by omega, hbk_right hB hC _ _ (by omega) n.1 (fun z => by omega), List.map_reverse]
theorem hdI_left {A B : List Int} {t : Int} (h0 : 0 ≤ t) (h1 : t < A.length) : hdI (A ++ B) t = hdI A t := by
  unfold hdI
  rw [atD_left h0 h1, hbk_same _ _ fun i hi => atD_left (by omega) (by omega)]
theorem rgI_move (a b c : Int) : rgI (a + b) (a + c) = (rgI b c).map fun x => a + x := by
  unfold rgI
  rw [List.map_map, show a + c - (a + b) = c - b by omega]
  refine List.map_congr_left fun i _ => ?_
  show a + b + (i : Int) = a + (b + (i : Int))
  omega
theorem rgI_join {a b c : Int} (h1 : a ≤ b) (h2 : b ≤ c) : rgI a c = rgI a b ++ rgI b c := by
  refine List.ext_getElem? fun i => ?_
  by_cases h : i < (b - a).toNat
  · rw [List.getElem?_append_left (by rw [rgI_len]; exact h), rgI_get h, rgI_get (by omega)]
  · rw [List.getElem?_append_right (by rw [rgI_len]; omega), rgI_len]
    by_cases h3 : i < (c - a).toNat
    · rw [rgI_get h3, rgI_get (by omega)]
      congr 1; omega
    · rw [List.getElem?_eq_none (by rw [rgI_len]; omega), List.getElem?_eq_none (by rw [rgI_len]; omega)]
theorem TopIs.right {A B : List Int} (hA : Outline A) {s t : Int} (h : TopIs (atD B) B.length s t) (hs : 0 ≤ s) : TopIs (atD (A ++ B)) (A ++ B).length (A.length + s) (A.length + t) := by
  have l := h.lo
  have u := h.hi
  refine ⟨by omega, by rw [List.length_append]; omega, by rw [atD_right l u]; have := h.ok; omega, fun k k0 k1 => ?_⟩
  by_cases c : k < A.length
  · rw [atD_left k0 c]
    have := hA.at k0 c
    omega
  · have := h.least (k - A.length) (by omega) (by omega)
    have e := atD_right (A := A) (B := B) (k := k - A.length) (by omega) (by omega)
    rw [show (A.length : Int) + (k - A.length) = k by omega] at e
    rw [e]; omega
theorem TopIs.left {A : List Int} (B : List Int) {s t : Int} (h : TopIs (atD A) A.length s t) : TopIs (atD (A ++ B)) (A ++ B).length s t := by
  have l := h.lo
  have u := h.hi
  exact ⟨l, by rw [List.length_append]; omega, by rw [atD_left l u]; exact h.ok, fun k k0 k1 => by rw [atD_left k0 (by omega)]; exact h.least k k0 k1⟩
theorem vwI_right {A B : List Int} (hB : Outline B) (hC : Outline (A ++ B)) {h s t : Int} (ht : TopIs (atD B) B.length s t) (hs : 0 ≤ s) :
    vwI (A ++ B) h (A.length + s) (A.length + t) = (vwI B h s t).map fun x => (A.length : Int) + x := by
  have l := ht.lo
  have u := ht.hi
  have n := hB.at l u
  unfold vwI
  rw [← cutI_map, List.map_append, ← rgI_move, List.length_append, Int.natCast_add]
  congr 2
  unfold vwH
  rw [atD_right l u, show (A.length : Int) + t - atD B t - (A.length + s) = t - atD B t - s by omega]
  by_cases c : 0 < t - atD B t - s
  · rw [if_pos c, if_pos c, hdI_right hB hC l u, show (A.length : Int) + t - 1 = A.length + (t - 1) by omega, hdI_right hB hC (t := t - 1) (by omega) (by omega), List.map_append, ← cutI_map]
  · rw [if_neg c, if_neg c, hdI_right hB hC l u]
theorem vwH_left {A : List Int} (B : List Int) (hA : Outline A) {s t : Int} (ht : TopIs (atD A) A.length s t) (hs : 0 ≤ s) : vwH (A ++ B) s t = vwH A s t := by
  have l := ht.lo
  have u := ht.hi
  have n := hA.at l u
  unfold vwH
  rw [atD_left l u, hdI_left l u]
  by_cases c : 0 < t - atD A t - s
  · rw [if_pos c, if_pos c, hdI_left (t := t - 1) (by omega) (by omega)]
  · rw [if_neg c, if_neg c]
theorem take_take_len (xs zs : List Int) (n : Nat) : ((xs ++ zs).take n).take (xs.take n).length = xs.take n := by
  rw [List.take_take, List.length_take, show min (min n xs.length) n = min n xs.length by omega, List.take_append_of_le_length (by omega)]
  rw [List.take_eq_take_iff]; omega
theorem vwI_left {A : List Int} (B : List Int) (hA : Outline A) {h s t : Int} (hh : 0 ≤ h) (ht : TopIs (atD A) A.length s t) (hs : 0 ≤ s) :
    (vwI (A ++ B) h s t).take (vwI A h s t).length = vwI A h s t := by
  have l := ht.lo
  have u := ht.hi
  rw [vwI_take hh, vwI_take hh, vwH_left B hA ht hs, rgI_join (a := t) (b := A.length) (c := (A ++ B).length) (by omega) (by rw [List.length_append]; omega), ← List.append_assoc]
  exact take_take_len _ _ _
theorem vwI_less {ns : List Int} {h h' s t : Int} (h0 : 0 ≤ h) (h1 : h ≤ h') : (vwI ns h' s t).take h.toNat = vwI ns h s t := by
  rw [vwI_take h0, vwI_take (by omega), List.take_take, show min h.toNat h'.toNat = h.toNat by omega]

def sp_check_height  : Sp := fun vs H Q _ => ∃ (h : Int) (L : Lg), vs = [.int h] ∧ Led H (L) ∧ (1 ≤ h) ∧ (h ≤ 400) ∧ Tr (L) (fun H => Q (.non) H)
theorem use_check_height {L : Lg} {Q : VK} {E : XK} {h : Int} (h0 : 1 ≤ h) (h1 : h ≤ 400) (q : Tr (L) (fun H => Q (.non) H)) : Tr L fun H => sp_check_height [.int h] H Q E :=
  fun H l => ⟨h, L, rfl, l, h0, h1, q⟩

theorem ok_check_height (D : Df K mg "check_height" s_check_height) (B : Blt mg) (g_MOST_ROWS : GV mg "MOST_ROWS" (.int 400)) (k_is_integer : Ok P w K mg base CX0 1 "is_integer" ["value"] sp_is_integer) : Ok P w K mg base CX0 2 "check_height" ["height"] sp_check_height := by
  obtain ⟨f, fd, hm, F⟩ := D
  refine ⟨f, fd, hm, F.kp, F.binds (fun _ _ _ _ _ _ us hl => match us, hl with | [_], _ => rfl), FunOkG F sc_check_height (fun vs H Q E h => ?_) (fun cdv A outer s H vs Q E hr h => ?_), F.lk⟩
  · obtain ⟨_, _, rfl, _⟩ := h; rfl
  obtain ⟨h, L, rfl, l, h0, h1, q⟩ := h
  refine ⟨_, PSs.nox (pss_one (ps_if (PW.pt (pw_or (pt_not (pt_val (pe_callG k_is_integer (hr.mono (by omega)) pas0 (pa_cons (pv 0) pa_nil)))) (pw_or1 (pt_not (pt_chain op_le op_le pe_int (pv 0) (pe_gv g_MOST_ROWS)))))) pss_never
        pss_nil)), ?_⟩
  rw [show L2.start ["height"] [.int h] = [some (.int h)] from rfl]
  refine Tr.of ?_ l
  repeat walk_at "hz"
  refine use_is_integer (.int h) ?_
  repeat walk_at "hz"
  exact q
def sp_top_of  : Sp := fun vs H Q _ => ∃ (a : Addr) (ns : List Int) (s : Int) (L : Lg), vs = [.ref a, .int s] ∧ Led H (L) ∧ ((a, .lst (ns.map V.int)) ∈ L) ∧ (ns.length ≤ 1000) ∧ (∃ k : Int, 0 ≤ k ∧ k < ns.length ∧ s ≤ k - atD ns k) ∧ ∀ (t : Int), (TopIs (atD ns) ns.length s t) → Tr (L) (fun H => Q (.int t) H)
theorem use_top_of {L : Lg} {Q : VK} {E : XK} {a : Addr} {ns : List Int} {s : Int} (hm : (a, .lst (ns.map V.int)) ∈ L) (hz : ns.length ≤ 1000) (hx : ∃ k : Int, 0 ≤ k ∧ k < ns.length ∧ s ≤ k - atD ns k) (q : ∀ (t : Int), (TopIs (atD ns) ns.length s t) → Tr (L) (fun H => Q (.int t) H)) : Tr L fun H => sp_top_of [.ref a, .int s] H Q E :=
  fun H l => ⟨a, ns, s, L, rfl, l, hm, hz, hx, q⟩

theorem ok_top_of (D : Df K mg "top_of" s_top_of) (B : Blt mg) : Ok P w K mg base CX0 1 "top_of" ["outline", "scroll"] sp_top_of := by
  obtain ⟨f, fd, hm, F⟩ := D
  refine ⟨f, fd, hm, F.kp, F.binds (fun _ _ _ _ _ _ us hl => match us, hl with | [_, _], _ => rfl), FunOkG F sc_top_of (fun vs H Q E h => ?_) (fun cdv A outer s H vs Q E hr h => ?_), F.lk⟩
  · obtain ⟨_, _, _, _, rfl, _⟩ := h; rfl
  obtain ⟨a, ns, s, L, rfl, l, hm, hz, hx, q⟩ := h
  refine ⟨_, PSs.nox (pss_one (ps_ret (pe_ix ix_list (pe_lc (own := [("line", 2), ("depth", 3)]) (g := gTup _ 2 (gCons (gName 2) (gCons (gName 3) (gNil)))) (by rfl) sc_top_of.nd (pi_enum (by rfl) B.enumerate_ (pa_cons (pv 0) pa_nil)) (blkOk_by (own := [("line", 2), ("depth", 3)]) (N := ["outline", "scroll", "line", "depth"]) (sc := defScope s_top_of) (by decide +kernel)) (fun _ _ _ _ _ => (pg_tup rfl (pgs_cons (pg_name (i := 2) sc_top_of.nd rfl (.inl rfl)) (pgs_cons (pg_name (i := 3) sc_top_of.nd rfl (.inl rfl)) pgs_nil)))) (fun _ _ _ _ _ => (pts_one (pt_cmpR op_ge (pe_op op_sub (pv 2) (pv 3)) (pv 1) (nomark _)))) (fun _ _ _ _ _ => (pv 2))) pe_int (fun _ _ => rfl)))), ?_⟩
  rw [show L2.start ["outline", "scroll", "line", "depth"] [.ref a, .int s] = [some (.ref a), some (.int s), none, none] from rfl]
  refine Tr.of ?_ l
  obtain ⟨R_hm, P_hm⟩ := Pick.of_mem hm
  repeat walk_at "hz"
  obtain ⟨R, hp⟩ := Pick.of_mem hm
  repeat walk_at "hz"
  refine t_lcFil (wk_enum (xs := ns.map V.int)) (by rfl) (fun t => decide (s ≤ (t : Int) - atD ns (t : Nat))) (fun t => .int ((t : Nat) : Int)) (fun x => ⟨_, hp.tail⟩) ?_ ?_
  · rintro D t v L' ht ⟨T, x, rfl, hx, rfl⟩
    obtain ⟨d, hd, rfl⟩ := map_get hx
    obtain rfl := atD_nat hd
    rw [List.cons_append, List.nil_append]
    repeat walk_at "hz"
    refine t_iteD (fun h3 => ?_) fun h3 => ?_
    · repeat walk_at "hz"
      exact t_lcFlA ht (by rw [sizeLine_eq]; simp; omega) (decide_eq_true (by omega)) rfl (by walk_at "pk") (by walk_at "sb")
    · repeat walk_at "hz"
      exact t_lcFlS (decide_eq_false (by omega)) (by walk_at "pk") (by walk_at "sb")
  · intro D
    rw [List.length_map]
    obtain ⟨j, g1, g2, g3⟩ := first_fl (fun t => decide (s ≤ (t : Int) - atD ns (t : Nat))) (fun t => V.int ((t : Nat) : Int)) ns.length
    rcases g3 with ⟨rfl, g3⟩ | ⟨g3, g4, r, g5⟩
    · obtain ⟨k, k0, k1, k2⟩ := hx
      have := of_decide_eq_false (g2 k.toNat (by omega))
      rw [Int.toNat_of_nonneg k0] at this
      omega
    · rw [g5]
      refine t_ixL .head (atI_nat (j := 0) rfl) ?_
      refine (q _ ⟨by omega, by omega, of_decide_eq_true g4, fun k k0 k1 => ?_⟩).sub (by walk_at "sb")
      have := of_decide_eq_false (g2 k.toNat (by omega))
      rw [Int.toNat_of_nonneg k0] at this
      omega
def sp_last_scroll  : Sp := fun vs H Q _ => ∃ (a : Addr) (ns : List Int) (L : Lg), vs = [.ref a] ∧ Led H (L) ∧ ((a, .lst (ns.map V.int)) ∈ L) ∧ (1 ≤ ns.length) ∧ (ns.length ≤ 1000) ∧ Tr (L) (fun H => Q (.int (ns.length - 1 - lastD (-1) ns)) H)
theorem use_last_scroll {L : Lg} {Q : VK} {E : XK} {a : Addr} {ns : List Int} (hm : (a, .lst (ns.map V.int)) ∈ L) (h0 : 1 ≤ ns.length) (h1 : ns.length ≤ 1000) (q : Tr (L) (fun H => Q (.int (ns.length - 1 - lastD (-1) ns)) H)) : Tr L fun H => sp_last_scroll [.ref a] H Q E :=
  fun H l => ⟨a, ns, L, rfl, l, hm, h0, h1, q⟩

theorem ok_last_scroll (D : Df K mg "last_scroll" s_last_scroll) (B : Blt mg) : Ok P w K mg base CX0 1 "last_scroll" ["outline"] sp_last_scroll := by
  obtain ⟨f, fd, hm, F⟩ := D
  refine ⟨f, fd, hm, F.kp, F.binds (fun _ _ _ _ _ _ us hl => match us, hl with | [_], _ => rfl), FunOkG F sc_last_scroll (fun vs H Q E h => ?_) (fun cdv A outer s H vs Q E hr h => ?_), F.lk⟩
  · obtain ⟨_, _, _, rfl, _⟩ := h; rfl
  obtain ⟨a, ns, L, rfl, l, hm, h0, h1, q⟩ := h
  refine ⟨_, PSs.nox (pss_one (ps_ret (pe_op op_sub (pe_op op_sub (pe_callB c_len rfl B.len_ boot_len (pa_cons (pv 0) pa_nil)) pe_int) (pe_ix ix_list (pv 0) (pe_un un_neg pe_int) (fun _ _ => rfl))))), ?_⟩
  rw [show L2.start ["outline"] [.ref a] = [some (.ref a)] from rfl]
  refine Tr.of ?_ l
  obtain ⟨R_hm, P_hm⟩ := Pick.of_mem hm
  repeat walk_at "hz"
  refine t_ixL (by walk_at "pk") (at_lastD (-1) h0) ?_
  repeat walk_at "hz"
  exact q
def sp_check_scroll  : Sp := fun vs H Q _ => ∃ (a : Addr) (ns : List Int) (s : Int) (L : Lg), vs = [.ref a, .int s] ∧ Led H (L) ∧ ((a, .lst (ns.map V.int)) ∈ L) ∧ (1 ≤ ns.length) ∧ (ns.length ≤ 1000) ∧ (0 ≤ s) ∧ (s ≤ ns.length - 1 - lastD (-1) ns) ∧ Tr (L) (fun H => Q (.non) H)
theorem use_check_scroll {L : Lg} {Q : VK} {E : XK} {a : Addr} {ns : List Int} {s : Int} (hm : (a, .lst (ns.map V.int)) ∈ L) (h0 : 1 ≤ ns.length) (h1 : ns.length ≤ 1000) (h2 : 0 ≤ s) (h3 : s ≤ ns.length - 1 - lastD (-1) ns) (q : Tr (L) (fun H => Q (.non) H)) : Tr L fun H => sp_check_scroll [.ref a, .int s] H Q E :=
  fun H l => ⟨a, ns, s, L, rfl, l, hm, h0, h1, h2, h3, q⟩

theorem ok_check_scroll (D : Df K mg "check_scroll" s_check_scroll) (B : Blt mg) (k_is_integer : Ok P w K mg base CX0 1 "is_integer" ["value"] sp_is_integer) (k_last_scroll : Ok P w K mg base CX0 1 "last_scroll" ["outline"] sp_last_scroll) : Ok P w K mg base CX0 2 "check_scroll" ["outline", "scroll"] sp_check_scroll := by
  obtain ⟨f, fd, hm, F⟩ := D
  refine ⟨f, fd, hm, F.kp, F.binds (fun _ _ _ _ _ _ us hl => match us, hl with | [_, _], _ => rfl), FunOkG F sc_check_scroll (fun vs H Q E h => ?_) (fun cdv A outer s H vs Q E hr h => ?_), F.lk⟩
  · obtain ⟨_, _, _, _, rfl, _⟩ := h; rfl
  obtain ⟨a, ns, s, L, rfl, l, hm, h0, h1, h2, h3, q⟩ := h
  refine ⟨_, PSs.nox (pss_one (ps_if (PW.pt (pw_or (pt_not (pt_val (pe_callG k_is_integer (hr.mono (by omega)) pas0 (pa_cons (pv 1) pa_nil)))) (pw_or1 (pt_not (pt_chain op_le op_le pe_int (pv 1) (pe_callG k_last_scroll (hr.mono (by omega)) pas0 (pa_cons (pv 0) pa_nil))))))) pss_never
        pss_nil)), ?_⟩
  rw [show L2.start ["outline", "scroll"] [.ref a, .int s] = [some (.ref a), some (.int s)] from rfl]
  refine Tr.of ?_ l
  obtain ⟨R_hm, P_hm⟩ := Pick.of_mem hm
  repeat walk_at "hz"
  refine use_is_integer (.int s) ?_
  repeat walk_at "hz"
  refine use_last_scroll hm h0 h1 ?_
  repeat walk_at "hz"
  exact q
def sp_check_arguments  : Sp := fun vs H Q _ => ∃ (a : Addr) (ns : List Int) (h s : Int) (L : Lg), vs = [.ref a, .int h, .int s] ∧ Led H (L) ∧ ((a, .lst (ns.map V.int)) ∈ L) ∧ (Outline ns) ∧ (1 ≤ h) ∧ (h ≤ 400) ∧ (0 ≤ s) ∧ (s ≤ ns.length - 1 - lastD (-1) ns) ∧ Tr (L) (fun H => Q (.non) H)
theorem use_check_arguments {L : Lg} {Q : VK} {E : XK} {a : Addr} {ns : List Int} {h s : Int} (hm : (a, .lst (ns.map V.int)) ∈ L) (ho : Outline ns) (h0 : 1 ≤ h) (h1 : h ≤ 400) (h2 : 0 ≤ s) (h3 : s ≤ ns.length - 1 - lastD (-1) ns) (q : Tr (L) (fun H => Q (.non) H)) : Tr L fun H => sp_check_arguments [.ref a, .int h, .int s] H Q E :=
  fun H l => ⟨a, ns, h, s, L, rfl, l, hm, ho, h0, h1, h2, h3, q⟩

theorem ok_check_arguments (D : Df K mg "check_arguments" s_check_arguments) (B : Blt mg) (k_check_outline : Ok P w K mg base CX0 3 "check_outline" ["outline"] sp_check_outline) (k_check_height : Ok P w K mg base CX0 2 "check_height" ["height"] sp_check_height) (k_check_scroll : Ok P w K mg base CX0 2 "check_scroll" ["outline", "scroll"] sp_check_scroll) : Ok P w K mg base CX0 4 "check_arguments" ["outline", "height", "scroll"] sp_check_arguments := by
  obtain ⟨f, fd, hm, F⟩ := D
  refine ⟨f, fd, hm, F.kp, F.binds (fun _ _ _ _ _ _ us hl => match us, hl with | [_, _, _], _ => rfl), FunOkG F sc_check_arguments (fun vs H Q E h => ?_) (fun cdv A outer s H vs Q E hr h => ?_), F.lk⟩
  · obtain ⟨_, _, _, _, _, rfl, _⟩ := h; rfl
  obtain ⟨a, ns, h, s, L, rfl, l, hm, ho, h0, h1, h2, h3, q⟩ := h
  refine ⟨_, PSs.nox (pss_cons (ps_expr (pe_callG k_check_outline (hr.mono (by omega)) pas0 (pa_cons (pv 0) pa_nil)))
      (pss_cons (ps_expr (pe_callG k_check_height (hr.mono (by omega)) pas0 (pa_cons (pv 1) pa_nil)))
      (pss_one (ps_expr (pe_callG k_check_scroll (hr.mono (by omega)) pas0 (pa_cons (pv 0) (pa_cons (pv 2) pa_nil))))))), ?_⟩
  rw [show L2.start ["outline", "height", "scroll"] [.ref a, .int h, .int s] = [some (.ref a), some (.int h), some (.int s)] from rfl]
  refine Tr.of ?_ l
  obtain ⟨R_hm, P_hm⟩ := Pick.of_mem hm
  repeat walk_at "hz"
  have hl := ho.len
  refine use_check_outline hm ho ?_
  repeat walk_at "hz"
  refine use_check_height h0 h1 ?_
  repeat walk_at "hz"
  refine use_check_scroll hm hl.1 (by omega) h2 h3 ?_
  repeat walk_at "hz"
  exact q
def sp_view_of  : Sp := fun vs H Q _ => ∃ (a : Addr) (ns : List Int) (h s : Int) (L : Lg), vs = [.ref a, .int h, .int s] ∧ Led H (L) ∧ ((a, .lst (ns.map V.int)) ∈ L) ∧ (Outline ns) ∧ (1 ≤ h) ∧ (h ≤ 400) ∧ (0 ≤ s) ∧ (s ≤ ns.length - 1 - lastD (-1) ns) ∧ ∀ (t : Int) (p : Addr), (TopIs (atD ns) ns.length s t) → Tr ((p, .lst ((vwI ns h s t).map V.int)) :: L) (fun H => Q (.ref p) H)
theorem use_view_of {L : Lg} {Q : VK} {E : XK} {a : Addr} {ns : List Int} {h s : Int} (hm : (a, .lst (ns.map V.int)) ∈ L) (ho : Outline ns) (h0 : 1 ≤ h) (h1 : h ≤ 400) (h2 : 0 ≤ s) (h3 : s ≤ ns.length - 1 - lastD (-1) ns) (q : ∀ (t : Int) (p : Addr), (TopIs (atD ns) ns.length s t) → Tr ((p, .lst ((vwI ns h s t).map V.int)) :: L) (fun H => Q (.ref p) H)) : Tr L fun H => sp_view_of [.ref a, .int h, .int s] H Q E :=
  fun H l => ⟨a, ns, h, s, L, rfl, l, hm, ho, h0, h1, h2, h3, q⟩

theorem ok_view_of (D : Df K mg "view_of" s_view_of) (B : Blt mg) (k_headings_of : Ok P w K mg base CX0 1 "headings_of" ["outline", "line"] sp_headings_of) (k_top_of : Ok P w K mg base CX0 1 "top_of" ["outline", "scroll"] sp_top_of) : Ok P w K mg base CX0 2 "view_of" ["outline", "height", "scroll"] sp_view_of := by
  obtain ⟨f, fd, hm, F⟩ := D
  refine ⟨f, fd, hm, F.kp, F.binds (fun _ _ _ _ _ _ us hl => match us, hl with | [_, _, _], _ => rfl), FunOkG F sc_view_of (fun vs H Q E h => ?_) (fun cdv A outer s H vs Q E hr h => ?_), F.lk⟩
  · obtain ⟨_, _, _, _, _, rfl, _⟩ := h; rfl
  obtain ⟨a, ns, h, s, L, rfl, l, hm, ho, h0, h1, h2, h3, q⟩ := h
  refine ⟨_, PSs.nox (pss_cons (ps_set (i := 3) sc_view_of.nd rfl (.inl rfl) (pe_callG k_top_of (hr.mono (by omega)) pas0 (pa_cons (pv 0) (pa_cons (pv 2) pa_nil))))
      (pss_cons (ps_set (i := 4) sc_view_of.nd rfl (.inl rfl) (pe_callG k_headings_of (hr.mono (by omega)) pas0 (pa_cons (pv 0) (pa_cons (pv 3) pa_nil))))
      (pss_cons (ps_set (i := 5) sc_view_of.nd rfl (.inl rfl) (pe_op op_sub (pe_op op_sub (pv 3) (pe_ix ix_list (pv 0) (pv 3) (fun _ _ => rfl))) (pv 2)))
      (pss_cons (ps_if (pt_cmpR op_gt (pv 5) pe_int (nomark _)) (pss_one (ps_set (i := 4) sc_view_of.nd rfl (.inl rfl) (pe_op op_cat (pv 4) (pe_slice sl_list (pe_callG k_headings_of (hr.mono (by omega)) pas0 (pa_cons (pv 0) (pa_cons (pe_op op_sub (pv 3) pe_int) pa_nil))) (po_some (pe_un un_neg (pv 5))) po_none))))
        pss_nil)
      (pss_one (ps_ret (pe_slice sl_list (pe_op op_cat (pv 4) (pe_listRg rfl rfl B.list_ (prg_2 rfl B.range_ (pv 3) (pe_callB c_len rfl B.len_ boot_len (pa_cons (pv 0) pa_nil))))) po_none (po_some (pv 1))))))))), ?_⟩
  rw [show L2.start ["outline", "height", "scroll", "top", "found", "pushed"] [.ref a, .int h, .int s] = [some (.ref a), some (.int h), some (.int s), none, none, none] from rfl]
  refine Tr.of ?_ l
  obtain ⟨R_hm, P_hm⟩ := Pick.of_mem hm
  repeat walk_at "hz"
  have hl := ho.len
  refine use_top_of hm (by omega) (ho.top h3) fun t ht => ?_
  have l := ht.lo
  have u := ht.hi
  have n := ho.at l u
  have vl := vwH_len ns (s := s) l
  repeat walk_at "hz"
  refine use_headings_of hm l u (by omega) fun e => ?_
  repeat walk_at "hz"
  refine t_iteD (fun c => ?_) fun c => ?_
  · repeat walk_at "hz"
    refine use_headings_of (by walk_at "mb") (by omega) (by omega) (by omega) fun e2 => ?_
    repeat walk_at "hz"
    refine t_catI (by walk_at "pk") (by walk_at "pk") (by rw [sizeLine_eq]; have := cutI_le (hdI ns (t - 1)) (some (-(t - atD ns t - s))) none; have := hdI_len ns t; have := hdI_len ns (t - 1); omega) fun e4 => ?_
    rw [show hdI ns t ++ cutI (hdI ns (t - 1)) (some (-(t - atD ns t - s))) none = vwH ns s t by unfold vwH; rw [if_pos c]]
    repeat walk_at "hz"
    refine t_catI (by walk_at "pk") (by walk_at "pk") (by rw [sizeLine_eq, rgI_len]; omega) fun e5 => ?_
    repeat walk_at "hz"
    exact (q t _ ht).sub (by walk_at "sb")
  · rw [show hdI ns t = vwH ns s t by unfold vwH; rw [if_neg c]]
    repeat walk_at "hz"
    refine t_catI (by walk_at "pk") (by walk_at "pk") (by rw [sizeLine_eq, rgI_len]; omega) fun e5 => ?_
    repeat walk_at "hz"
    exact (q t _ ht).sub (by walk_at "sb")
def sp_view  : Sp := fun vs H Q _ => ∃ (a : Addr) (ns : List Int) (h s : Int) (L : Lg), vs = [.ref a, .int h, .int s] ∧ Led H (L) ∧ ((a, .lst (ns.map V.int)) ∈ L) ∧ (Outline ns) ∧ (1 ≤ h) ∧ (h ≤ 400) ∧ (0 ≤ s) ∧ (s ≤ ns.length - 1 - lastD (-1) ns) ∧ ∀ (t : Int) (p : Addr), (TopIs (atD ns) ns.length s t) → Tr ((p, .lst ((vwI ns h s t).map V.int)) :: L) (fun H => Q (.ref p) H)
theorem use_view {L : Lg} {Q : VK} {E : XK} {a : Addr} {ns : List Int} {h s : Int} (hm : (a, .lst (ns.map V.int)) ∈ L) (ho : Outline ns) (h0 : 1 ≤ h) (h1 : h ≤ 400) (h2 : 0 ≤ s) (h3 : s ≤ ns.length - 1 - lastD (-1) ns) (q : ∀ (t : Int) (p : Addr), (TopIs (atD ns) ns.length s t) → Tr ((p, .lst ((vwI ns h s t).map V.int)) :: L) (fun H => Q (.ref p) H)) : Tr L fun H => sp_view [.ref a, .int h, .int s] H Q E :=
  fun H l => ⟨a, ns, h, s, L, rfl, l, hm, ho, h0, h1, h2, h3, q⟩

theorem ok_view (D : Df K mg "view" s_view) (B : Blt mg) (k_view_of : Ok P w K mg base CX0 2 "view_of" ["outline", "height", "scroll"] sp_view_of) (k_check_arguments : Ok P w K mg base CX0 4 "check_arguments" ["outline", "height", "scroll"] sp_check_arguments) : Ok P w K mg base CX0 5 "view" ["outline", "height", "scroll"] sp_view := by
  obtain ⟨f, fd, hm, F⟩ := D
  refine ⟨f, fd, hm, F.kp, F.binds (fun _ _ _ _ _ _ us hl => match us, hl with | [_, _, _], _ => rfl), FunOkG F sc_view (fun vs H Q E h => ?_) (fun cdv A outer s H vs Q E hr h => ?_), F.lk⟩
  · obtain ⟨_, _, _, _, _, rfl, _⟩ := h; rfl
  obtain ⟨a, ns, h, s, L, rfl, l, hm, ho, h0, h1, h2, h3, q⟩ := h
  refine ⟨_, PSs.nox (pss_cons (ps_expr (pe_callG k_check_arguments (hr.mono (by omega)) pas0 (pa_cons (pv 0) (pa_cons (pv 1) (pa_cons (pv 2) pa_nil)))))
      (pss_one (ps_ret (pe_callG k_view_of (hr.mono (by omega)) pas0 (pa_cons (pv 0) (pa_cons (pv 1) (pa_cons (pv 2) pa_nil))))))), ?_⟩
  rw [show L2.start ["outline", "height", "scroll"] [.ref a, .int h, .int s] = [some (.ref a), some (.int h), some (.int s)] from rfl]
  refine Tr.of ?_ l
  obtain ⟨R_hm, P_hm⟩ := Pick.of_mem hm
  repeat walk_at "hz"
  refine use_check_arguments hm ho h0 h1 h2 h3 ?_
  repeat walk_at "hz"
  exact use_view_of hm ho h0 h1 h2 h3 q
/-- the scroll positions at which a line is shown, or none -/
def IvIs (ns : List Int) (h i : Int) (v : V) (N : Lg) : Prop :=
  (max 0 (i - h + 1) ≤ i - atD ns i ∧ ∃ p, v = .ref p ∧ N = [(p, .tup ([max 0 (i - h + 1), i - atD ns i].map V.int))]) ∨ (¬ max 0 (i - h + 1) ≤ i - atD ns i ∧ v = .non ∧ N = [])
def sp_interval_for  : Sp := fun vs H Q _ => ∃ (a : Addr) (ns : List Int) (h i : Int) (L : Lg), vs = [.ref a, .int h, .int i] ∧ Led H (L) ∧ ((a, .lst (ns.map V.int)) ∈ L) ∧ (0 ≤ i) ∧ (i < ns.length) ∧ (ns.length ≤ 1000) ∧ (1 ≤ h) ∧ (h ≤ 400) ∧ ∀ (v : V) (N : Lg), (IvIs ns h i v N) → Tr ((N ++ L)) (fun H => Q (v) H)
theorem use_interval_for {L : Lg} {Q : VK} {E : XK} {a : Addr} {ns : List Int} {h i : Int} (hm : (a, .lst (ns.map V.int)) ∈ L) (h0 : 0 ≤ i) (h1 : i < ns.length) (h2 : ns.length ≤ 1000) (h3 : 1 ≤ h) (h4 : h ≤ 400) (q : ∀ (v : V) (N : Lg), (IvIs ns h i v N) → Tr ((N ++ L)) (fun H => Q (v) H)) : Tr L fun H => sp_interval_for [.ref a, .int h, .int i] H Q E :=
  fun H l => ⟨a, ns, h, i, L, rfl, l, hm, h0, h1, h2, h3, h4, q⟩

theorem ok_interval_for (D : Df K mg "interval_for" s_interval_for) (B : Blt mg) : Ok P w K mg base CX0 1 "interval_for" ["outline", "height", "line"] sp_interval_for := by
  obtain ⟨f, fd, hm, F⟩ := D
  refine ⟨f, fd, hm, F.kp, F.binds (fun _ _ _ _ _ _ us hl => match us, hl with | [_, _, _], _ => rfl), FunOkG F sc_interval_for (fun vs H Q E h => ?_) (fun cdv A outer s H vs Q E hr h => ?_), F.lk⟩
  · obtain ⟨_, _, _, _, _, rfl, _⟩ := h; rfl
  obtain ⟨a, ns, h, i, L, rfl, l, hm, h0, h1, h2, h3, h4, q⟩ := h
  refine ⟨_, PSs.nox (pss_cons (ps_par (i := 3) (j := 4) (by rfl) sc_interval_for.nd rfl rfl (by decide) rfl rfl (pa_cons (pe_callB (c_max2 rfl) rfl B.max_ boot_max (pa_cons pe_int (pa_cons (pe_op op_add (pe_op op_sub (pv 2) (pv 1)) pe_int) pa_nil))) (pa_cons (pe_op op_sub (pv 2) (pe_ix ix_list (pv 0) (pv 2) (fun _ _ => rfl))) pa_nil)) (by rfl))
      (pss_one (ps_ret (pe_ifExp (pt_cmpR op_le (pv 3) (pv 4) (nomark _)) (pe_tup (pa_cons (pv 3) (pa_cons (pv 4) pa_nil))) pe_non)))), ?_⟩
  rw [show L2.start ["outline", "height", "line", "least", "greatest"] [.ref a, .int h, .int i] = [some (.ref a), some (.int h), some (.int i), none, none] from rfl]
  refine Tr.of ?_ l
  obtain ⟨R_hm, P_hm⟩ := Pick.of_mem hm
  repeat walk_at "hz"
  refine t_iteD (fun c => ?_) fun c => ?_
  · repeat walk_at "hz"
    rename_i p
    exact (q (.ref p) [_] (.inl ⟨by omega, p, rfl, rfl⟩)).sub (by walk_at "sb")
  · repeat walk_at "hz"
    exact (q .non [] (.inr ⟨by omega, rfl, rfl⟩)).sub (by walk_at "sb")

/-! ### the fewest folds -/
def sp_sections_between  : Sp := fun vs H Q _ => ∃ (a : Addr) (ns : List Int) (x y : Int) (L : Lg), vs = [.ref a, .int x, .int y] ∧ Led H (L) ∧ ((a, .lst (ns.map V.int)) ∈ L) ∧ (Outline ns) ∧ (0 ≤ x) ∧ (y < ns.length) ∧ ∀ (p : Addr) (us : List V) (fs : List (Int × Int)) (N : Lg), (SW (atD ns) ns.length y x fs) → (Prs N us fs) → Tr ((p, .lst us) :: (N ++ L)) (fun H => Q (.ref p) H)
theorem use_sections_between {L : Lg} {Q : VK} {E : XK} {a : Addr} {ns : List Int} {x y : Int} (hm : (a, .lst (ns.map V.int)) ∈ L) (ho : Outline ns) (h0 : 0 ≤ x) (h1 : y < ns.length) (q : ∀ (p : Addr) (us : List V) (fs : List (Int × Int)) (N : Lg), (SW (atD ns) ns.length y x fs) → (Prs N us fs) → Tr ((p, .lst us) :: (N ++ L)) (fun H => Q (.ref p) H)) : Tr L fun H => sp_sections_between [.ref a, .int x, .int y] H Q E :=
  fun H l => ⟨a, ns, x, y, L, rfl, l, hm, ho, h0, h1, q⟩

theorem ok_sections_between (D : Df K mg "sections_between" s_sections_between) (B : Blt mg) (k_last_of_section : Ok P w K mg base CX0 1 "last_of_section" ["outline", "line"] sp_last_of_section) : Ok P w K mg base CX0 2 "sections_between" ["outline", "first", "last"] sp_sections_between := by
  obtain ⟨f, fd, hm, F⟩ := D
  refine ⟨f, fd, hm, F.kp, F.binds (fun _ _ _ _ _ _ us hl => match us, hl with | [_, _, _], _ => rfl), FunOkG F sc_sections_between (fun vs H Q E h => ?_) (fun cdv A outer s H vs Q E hr h => ?_), F.lk⟩
  · obtain ⟨_, _, _, _, _, rfl, _⟩ := h; rfl
  obtain ⟨a, ns, x, y, L, rfl, l, hm, ho, h0, h1, q⟩ := h
  refine ⟨_, PSs.nox (pss_cons (ps_set (i := 3) sc_sections_between.nd rfl (.inl rfl) (pe_lst pa_nil))
      (pss_cons (ps_set (i := 4) sc_sections_between.nd rfl (.inl rfl) (pv 1))
      (pss_cons (ps_while PassesOwn.never (pt_cmpR op_lt (pv 4) (pv 2) (nomark _))
        (pss_cons (ps_set (i := 5) sc_sections_between.nd rfl (.inl rfl) (pe_callG k_last_of_section (hr.mono (by omega)) pas0 (pa_cons (pv 0) (pa_cons (pv 4) pa_nil))))
      (pss_one (ps_if (pt_cmpR op_lt (pv 5) (pv 2) (nomark _)) (pss_cons (ps_expr (pe_bm PySem.F.plainAttrs_list PySem.F.slot_list_append PySem.F.type_list_append mt_append (pv 3) (pa_cons (pe_tup (pa_cons (pe_op op_sub (pv 5) (pv 4)) (pa_cons (pv 4) pa_nil))) pa_nil)))
      (pss_one (ps_set (i := 4) sc_sections_between.nd rfl (.inl rfl) (pe_op op_add (pv 5) pe_int))))
        (pss_one (ps_aug (i := 4) sc_sections_between.nd rfl (.inl rfl) pe_int ip_add))))))
      (pss_one (ps_ret (pv 3)))))), ?_⟩
  rw [show L2.start ["outline", "first", "last", "found", "line", "end"] [.ref a, .int x, .int y] = [some (.ref a), some (.int x), some (.int y), none, none, none] from rfl]
  refine Tr.of ?_ l
  obtain ⟨R_hm, P_hm⟩ := Pick.of_mem hm
  repeat walk_at "hz"
  have hl := ho.len
  obtain ⟨R, hp⟩ := Pick.of_mem hm
  repeat walk_at "hz"
  rename_i p0
  refine t_whG (fun ((c, us, fs, N, j5) : Int × (List V) × (List (Int × Int)) × Lg × Option V) => [some (.ref a), some (.int x), some (.int y), some (.ref p0), some (.int c), j5]) (fun ((c, us, fs, N, j5) : Int × (List V) × (List (Int × Int)) × Lg × Option V) => (p0, .lst us) :: (N ++ L)) (fun ((c, us, fs, N, j5) : Int × (List V) × (List (Int × Int)) × Lg × Option V) => Prs N us fs ∧ x ≤ c ∧ us.length ≤ (c - x).toNat ∧ ∀ gs, SW (atD ns) ns.length y c gs → SW (atD ns) ns.length y x (fs ++ gs)) (fun ((c, us, fs, N, j5) : Int × (List V) × (List (Int × Int)) × Lg × Option V) => (y - c).toNat) ⟨(x, [], [], [], _), ⟨.nil, Int.le_refl _, by simp, fun gs h => h⟩, rfl, (by walk_at "sb")⟩ ?_
  rintro ⟨c, us, fs, N, j5⟩ ⟨i1, i2, i3, i4⟩
  try dsimp only at i1 i2 i3 i4 ⊢
  repeat walk_at "hz"
  refine t_whB (fun g => ?_) fun g => ?_
  · repeat walk_at "hz"
    refine use_last_of_section (by walk_at "mb") (by omega) (by omega) fun e he => ?_
    have lo := he.lo
    repeat walk_at "hz"
    refine t_iteD (fun k => ?_) fun k => ?_
    · repeat walk_at "hz"
      rename_i pt
      refine t_whl (e + 1, us ++ [.ref pt], fs ++ [(e - c, c)], (pt, .tup [.int (e - c), .int c]) :: N, _) ⟨(i1.mono fun _ h => .tail _ h).snoc (.head _), by omega, (by (try dsimp only); (try simp only [List.length_append, List.length_cons, List.length_nil, List.length_map, List.length_singleton]); omega), fun gs h => by rw [List.append_assoc]; exact i4 _ (.sec g he k h)⟩ (by (try dsimp only); omega) rfl (by walk_at "sb")
    · repeat walk_at "hz"
      refine t_whl (c + 1, us, fs, N, _) ⟨i1, by omega, by dsimp only; omega, fun gs h => i4 _ (.inn g he (by omega) h)⟩ (by (try dsimp only); omega) rfl (by walk_at "sb")
  · repeat walk_at "hz"
    have := i4 [] (.done (by omega))
    rw [List.append_nil] at this
    exact (q p0 us fs N this i1).sub (by walk_at "sb")
def sp_folds_to_show  : Sp := fun vs H Q _ => ∃ (a : Addr) (ns : List Int) (h x y : Int) (L : Lg), vs = [.ref a, .int h, .int x, .int y] ∧ Led H (L) ∧ ((a, .lst (ns.map V.int)) ∈ L) ∧ (Outline ns) ∧ (1 ≤ h) ∧ (h ≤ 400) ∧ (0 ≤ x) ∧ (x < ns.length) ∧ (0 ≤ y) ∧ (y < ns.length) ∧ ∀ (v : V) (N : Lg), (FtV ns h x y v N) → Tr ((N ++ L)) (fun H => Q (v) H)
theorem use_folds_to_show {L : Lg} {Q : VK} {E : XK} {a : Addr} {ns : List Int} {h x y : Int} (hm : (a, .lst (ns.map V.int)) ∈ L) (ho : Outline ns) (h0 : 1 ≤ h) (h1 : h ≤ 400) (x0 : 0 ≤ x) (x1 : x < ns.length) (y0 : 0 ≤ y) (y1 : y < ns.length) (q : ∀ (v : V) (N : Lg), (FtV ns h x y v N) → Tr ((N ++ L)) (fun H => Q (v) H)) : Tr L fun H => sp_folds_to_show [.ref a, .int h, .int x, .int y] H Q E :=
  fun H l => ⟨a, ns, h, x, y, L, rfl, l, hm, ho, h0, h1, x0, x1, y0, y1, q⟩

theorem ok_folds_to_show (D : Df K mg "folds_to_show" s_folds_to_show) (B : Blt mg) (k_check_outline : Ok P w K mg base CX0 3 "check_outline" ["outline"] sp_check_outline) (k_check_line : Ok P w K mg base CX0 2 "check_line" ["outline", "line"] sp_check_line) (k_check_height : Ok P w K mg base CX0 2 "check_height" ["height"] sp_check_height) (k_sections_between : Ok P w K mg base CX0 2 "sections_between" ["outline", "first", "last"] sp_sections_between) : Ok P w K mg base CX0 4 "folds_to_show" ["outline", "height", "line", "other"] sp_folds_to_show := by
  obtain ⟨f, fd, hm, F⟩ := D
  refine ⟨f, fd, hm, F.kp, F.binds (fun _ _ _ _ _ _ us hl => match us, hl with | [_, _, _, _], _ => rfl), FunOkG F sc_folds_to_show (fun vs H Q E h => ?_) (fun cdv A outer s H vs Q E hr h => ?_), F.lk⟩
  · obtain ⟨_, _, _, _, _, _, rfl, _⟩ := h; rfl
  obtain ⟨a, ns, h, x, y, L, rfl, l, hm, ho, h0, h1, x0, x1, y0, y1, q⟩ := h
  refine ⟨_, PSs.nox (pss_cons (ps_expr (pe_callG k_check_outline (hr.mono (by omega)) pas0 (pa_cons (pv 0) pa_nil)))
      (pss_cons (ps_expr (pe_callG k_check_height (hr.mono (by omega)) pas0 (pa_cons (pv 1) pa_nil)))
      (pss_cons (ps_expr (pe_callG k_check_line (hr.mono (by omega)) pas0 (pa_cons (pv 0) (pa_cons (pv 2) pa_nil))))
      (pss_cons (ps_expr (pe_callG k_check_line (hr.mono (by omega)) pas0 (pa_cons (pv 0) (pa_cons (pv 3) pa_nil))))
      (pss_cons (ps_par (i := 4) (j := 5) (by rfl) sc_folds_to_show.nd rfl rfl (by decide) rfl rfl (pa_cons (pe_callB (c_min2 rfl) rfl B.min_ boot_min (pa_cons (pv 2) (pa_cons (pv 3) pa_nil))) (pa_cons (pe_callB (c_max2 rfl) rfl B.max_ boot_max (pa_cons (pv 2) (pa_cons (pv 3) pa_nil))) pa_nil)) (by rfl))
      (pss_cons (ps_set (i := 6) sc_folds_to_show.nd rfl (.inl rfl) (pe_op op_add (pe_op op_sub (pe_op op_add (pe_op op_sub (pv 5) (pv 4)) (pe_ix ix_list (pv 0) (pv 4) (fun _ _ => rfl))) (pv 1)) pe_int))
      (pss_cons (ps_set (i := 7) sc_folds_to_show.nd rfl (.inl rfl) (pe_lst pa_nil))
      (pss_cons (ps_for PassesOwn.never rfl (pi_list (pe_revL (pe_callB cr_sortedPO rfl B.sorted_ boot_sorted (pa_cons (pe_callG k_sections_between (hr.mono (by omega)) pas0 (pa_cons (pv 0) (pa_cons (pv 4) (pa_cons (pv 5) pa_nil)))) pa_nil)))) (pg_tup rfl (pgs_cons (pg_name (i := 8) sc_folds_to_show.nd rfl (.inl rfl)) (pgs_cons (pg_name (i := 9) sc_folds_to_show.nd rfl (.inl rfl)) pgs_nil)))
        (pss_one (ps_if (PW.pt (pw_and (pt_cmpR op_gt (pv 6) pe_int (nomark _)) (pw_and1 (pt_cmpR op_gt (pv 8) pe_int (nomark _))))) (pss_cons (ps_expr (pe_bm PySem.F.plainAttrs_list PySem.F.slot_list_append PySem.F.type_list_append mt_append (pv 7) (pa_cons (pv 9) pa_nil)))
      (pss_one (ps_aug (i := 6) sc_folds_to_show.nd rfl (.inl rfl) (pv 8) ip_sub)))
        pss_nil)))
      (pss_one (ps_ret (pe_ifExp (pt_cmpR op_le (pv 6) pe_int (nomark _)) (pe_callB cr_sortedI rfl B.sorted_ boot_sorted (pa_cons (pv 7) pa_nil)) pe_non))))))))))), ?_⟩
  rw [show L2.start ["outline", "height", "line", "other", "first", "last", "missing", "folds", "hidden", "folded"] [.ref a, .int h, .int x, .int y] = [some (.ref a), some (.int h), some (.int x), some (.int y), none, none, none, none, none, none] from rfl]
  refine Tr.of ?_ l
  obtain ⟨R_hm, P_hm⟩ := Pick.of_mem hm
  repeat walk_at "hz"
  have hl := ho.len
  obtain ⟨R, hp⟩ := Pick.of_mem hm
  refine use_check_outline hm ho ?_
  repeat walk_at "hz"
  refine use_check_height h0 h1 ?_
  repeat walk_at "hz"
  refine use_check_line hm x0 x1 ?_
  repeat walk_at "hz"
  refine use_check_line hm y0 y1 ?_
  repeat walk_at "hz"
  rename_i p0
  refine use_sections_between (by walk_at "mb") ho (by omega) (by omega) fun p1 us fs N hs hx => ?_
  have fl0 := hs.len
  have ul := hx.len
  repeat walk_at "hz"
  refine t_sortP (by walk_at "pk") (hx.mono fun q h => by simp [h]) fun ys qs p2 hy pm srt => ?_
  have yl := hy.len
  have pl := pm.length_eq
  repeat walk_at "hz"
  have hr : Prs (N ++ L) ys.reverse qs.reverse := (hy.keep fun t zs h => by simpa using h).rev
  rename_i p3
  have srt2 : qs.reverse.Pairwise (fun a b => lexLe b a) := List.pairwise_reverse.mpr srt
  have pm2 : qs.reverse.Perm fs := (List.reverse_perm qs).trans pm
  have rl : qs.reverse.length ≤ 400 := by rw [List.length_reverse]; omega
  have yr : ys.reverse.length = qs.reverse.length := by rw [List.length_reverse, List.length_reverse, yl]
  generalize ys.reverse = zs at hr yr ⊢
  generalize qs.reverse = rs at hr srt2 pm2 rl yr
  clear hy srt pm yl pl
  obtain ⟨M0, hM0⟩ : ∃ M0, M0 = max x y - min x y + atD ns (min x y) - h + 1 := ⟨_, rfl⟩
  rw [← hM0]
  refine t_forK (wk_list (xs := zs)) (fun t ((gl, m, j8, j9) : (List Int) × Int × Option V × Option V) => [some (.ref a), some (.int h), some (.int x), some (.int y), some (.int (min x y)), some (.int (max x y)), some (.int m), some (.ref p0), j8, j9]) (fun t ((gl, m, j8, j9) : (List Int) × Int × Option V × Option V) => (p0, .lst (gl.map V.int)) :: (p3, .lst zs) :: (N ++ L)) (fun t ((gl, m, j8, j9) : (List Int) × Int × Option V × Option V) => grF M0 rs = gl ++ grF m (rs.drop t) ∧ grM M0 rs = grM m (rs.drop t) ∧ gl.length ≤ t) ⟨([], M0, _, _), ⟨rfl, rfl, Nat.le_refl _⟩, rfl, (by walk_at "sb")⟩ (fun _ _ _ => ⟨_, (by walk_at "pk")⟩) ?_ ?_
  · rintro t ⟨gl, m, j8, j9⟩ v L' ht ⟨i1, i2, i3⟩ ⟨hv, rfl⟩
    try dsimp only at i1 i2 i3 ⊢
    simp only [List.nil_append, List.cons_append]
    obtain ⟨T, p, rfl, he, mm⟩ := hr.at hv
    obtain ⟨R3, hp3⟩ := Pick.of_mem mm
    have dr : rs.drop t = p :: rs.drop (t + 1) := by
      obtain ⟨hlt, e⟩ := List.getElem?_eq_some_iff.mp he
      rw [List.drop_eq_getElem_cons hlt, e]
    rw [dr] at i1 i2
    rw [grF] at i1
    rw [grM] at i2
    repeat walk_at "hz"
    refine t_iteD (fun c1 => ?_) fun c1 => ?_
    · repeat walk_at "hz"
      refine t_iteD (fun c2 => ?_) fun c2 => ?_
      · rw [if_pos ⟨c1, c2⟩] at i1 i2
        repeat walk_at "hz"
        refine t_pst (gl ++ [p.2], m - p.1, _, _) ⟨by rw [i1, List.append_assoc]; rfl, i2, (by (try dsimp only); (try simp only [List.length_append, List.length_cons, List.length_nil, List.length_map, List.length_singleton]); omega)⟩ rfl (by walk_at "sb")
      · rw [if_neg (fun e => c2 e.2)] at i1 i2
        repeat walk_at "hz"
        refine t_pst (gl, m, _, _) ⟨i1, i2, by dsimp only; omega⟩ rfl (by walk_at "sb")
    · rw [if_neg (fun e => c1 e.1)] at i1 i2
      repeat walk_at "hz"
      refine t_pst (gl, m, _, _) ⟨i1, i2, by dsimp only; omega⟩ rfl (by walk_at "sb")
  · rintro ⟨gl, m, j8, j9⟩ ⟨i1, i2, i3⟩
    try dsimp only at i1 i2 i3 ⊢
    rw [yr, List.drop_length, grF, List.append_nil] at i1
    rw [yr, List.drop_length, grM] at i2
    repeat walk_at "hz"
    refine t_iteD (fun c => ?_) fun c => ?_
    · repeat walk_at "hz"
      refine t_sortI (by walk_at "pk") fun ms p4 h1 h2 => ?_
      repeat walk_at "hz"
      refine (q (.ref p4) _ (.yes (N := []) ⟨fs, rs, hs, pm2, srt2, .inl ⟨?_, ms, rfl, ?_, h2⟩⟩)).sub (by walk_at "sb")
      · rw [← hM0, i2]; exact c
      · rw [← hM0, i1]; exact h1
    · repeat walk_at "hz"
      refine (q .non [] (.no ⟨fs, rs, hs, pm2, srt2, .inr ⟨?_, rfl⟩⟩)).sub (by walk_at "sb")
      rw [← hM0, i2]; omega
/-! ### all ascending lists of some numbers -/
def subs : List Int → List (List Int) → List (List Int)
  | [], found => found
  | x :: r, found => subs r (found ++ found.map fun s => s ++ [x])
theorem subs_len : ∀ (xs : List Int) (found : List (List Int)), (subs xs found).length = found.length * 2 ^ xs.length
  | [], f => by simp [subs]
  | x :: r, f => by rw [subs, subs_len r, List.length_append, List.length_map, List.length_cons, Nat.pow_succ]; rw [← Nat.mul_two, Nat.mul_assoc, Nat.mul_comm 2]
theorem subs_mem : ∀ (xs : List Int) (found : List (List Int)) (r : List Int), r ∈ subs xs found ↔ ∃ a ∈ found, ∃ b, b.Sublist xs ∧ r = a ++ b
  | [], f, r => by
    rw [subs]
    constructor
    · intro h; exact ⟨r, h, [], .slnil, by simp⟩
    · rintro ⟨a, ha, b, hb, rfl⟩
      rw [List.sublist_nil.mp hb, List.append_nil]; exact ha
  | x :: xs, f, r => by
    rw [subs, subs_mem xs]
    constructor
    · rintro ⟨a, ha, b, hb, rfl⟩
      rcases List.mem_append.mp ha with ha | ha
      · exact ⟨a, ha, b, hb.cons x, rfl⟩
      · obtain ⟨c, hc, rfl⟩ := List.mem_map.mp ha
        exact ⟨c, hc, x :: b, hb.cons_cons x, by simp⟩
    · rintro ⟨a, ha, b, hb, rfl⟩
      cases hb with
      | cons _ h => exact ⟨a, List.mem_append_left _ ha, b, h, rfl⟩
      | cons_cons _ h => exact ⟨a ++ [x], List.mem_append_right _ (List.mem_map.mpr ⟨a, ha, rfl⟩), _, h, by simp⟩
/-- an ascending list of numbers of a range is one of them -/
theorem asc_sub : ∀ (k : Nat) (a b : Int) (zs : List Int), (b - a).toNat ≤ k → zs.Pairwise (· < ·) → (∀ z ∈ zs, a ≤ z ∧ z < b) → zs.Sublist (rgI a b)
  | k, a, b, [], _, _, _ => List.nil_sublist _
  | 0, a, b, z :: r, hk, _, hb => by have := hb z (.head _); omega
  | k + 1, a, b, z :: r, hk, hz, hb => by
    have zb := hb z (.head _)
    have hz' := List.pairwise_cons.mp hz
    have e : rgI a b = a :: rgI (a + 1) b := by
      unfold rgI
      rw [show (b - a).toNat = (b - (a + 1)).toNat + 1 by omega, List.range_succ_eq_map, List.map_cons, List.map_map]
      congr 1
      · simp
      · exact List.map_congr_left fun i _ => by simp only [Function.comp]; omega
    rw [e]
    by_cases c : z = a
    · subst c
      exact (asc_sub k (z + 1) b r (by omega) hz'.2 fun y m => by have := hz'.1 y m; have := hb y (.tail _ m); omega).cons_cons z
    · refine (asc_sub k (a + 1) b (z :: r) (by omega) hz fun y m => ?_).cons a
      have := hb y m
      rcases List.mem_cons.mp m with rfl | m
      · omega
      · have := hz'.1 y m; omega
theorem subs_snoc : ∀ (xs : List Int) (x : Int) (f : List (List Int)), subs (xs ++ [x]) f = subs xs f ++ (subs xs f).map fun s => s ++ [x]
  | [], _, _ => rfl
  | y :: r, x, f => by
    show subs (r ++ [x]) _ = _
    rw [subs_snoc r x]; rfl
theorem RoomG.u65 {k : Nat} {A : Around} (r : RoomG k A) : A.units + 65 < cLine := by have := r.rm.un; omega

/-! ### the law's own sizes -/
noncomputable def tB (f : Int → Int) (x y t : Int) : Bool := @decide (∀ i, x ≤ i → An f i t → An f i y) (Classical.propDecidable _)
theorem tB_iff {f : Int → Int} {x y t : Int} : tB f x y t = true ↔ ∀ i, x ≤ i → An f i t → An f i y := by
  unfold tB
  exact @decide_eq_true_iff _ (Classical.propDecidable _)
theorem pairs_eq {f : Int → Int} {n : Int} : ∀ {ps fs : List (Int × Int)}, ps.map (·.2) = fs.map (·.2) → (∀ p ∈ ps, SecEnd f n p.2 (p.2 + p.1)) → (∀ p ∈ fs, SecEnd f n p.2 (p.2 + p.1)) → ps = fs
  | [], [], _, _, _ => rfl
  | p :: ps, q :: fs, h, h1, h2 => by
    rw [List.map_cons, List.map_cons] at h
    injection h with e h
    have a := h1 p (.head _)
    have b := h2 q (.head _)
    rw [e] at a
    have := a.uniq b
    rw [pairs_eq h (fun x hx => h1 x (.tail _ hx)) fun x hx => h2 x (.tail _ hx), show p = q from Prod.ext (by omega) e]
theorem asc_ext {l m : List Int} (h1 : l.Pairwise (· < ·)) (h2 : m.Pairwise (· < ·)) (h : ∀ x, x ∈ l ↔ x ∈ m) : l = m :=
  perm_uniq (R := (· < ·)) (fun a b c d => by omega) ((List.perm_ext_iff_of_nodup (h1.imp fun {a b} c => by omega) (h2.imp fun {a b} c => by omega)).mpr h) h1 h2
theorem rgI_asc (a b : Int) : (rgI a b).Pairwise (· < ·) := by
  unfold rgI
  exact List.pairwise_map.mpr ((List.pairwise_lt_range (n := _)).imp fun {a b} h => by omega)
theorem fl_rg2 (x y : Int) (f : Int → Bool) : fl (fun u : Nat => f (x + u)) (fun u : Nat => x + (u : Int)) (y - x).toNat = (rgI x y).filter f := by
  unfold fl rgI
  rw [List.filter_map]; rfl
theorem leftU_mem {f : Int → Int} {M : List Int} {n x : Int} : x ∈ leftU f M n ↔ (0 ≤ x ∧ x < n) ∧ ¬ Hid f M x := by
  unfold leftU
  rw [List.mem_filter, rg_in]
  constructor
  · rintro ⟨a, b⟩
    refine ⟨a, fun h => ?_⟩
    rw [hidB_iff.mpr h] at b
    cases b
  · rintro ⟨a, b⟩
    exact ⟨a, by rw [hidB_no b]; rfl⟩
theorem leftU_idx {f : Int → Int} {M : List Int} {n x : Int} (h0 : 0 ≤ x) (h1 : x < n) (nh : ¬ Hid f M x) {j : Nat} (hj : (leftU f M n)[j]? = some x) : (j : Int) = keptN f M 0 x := by
  have e : leftU f M n = leftU f M x ++ (x :: (rgI (x + 1) n).filter fun k => !hidB f M k) := by
    unfold leftU
    rw [rg_app h0 (show x ≤ n by omega), List.filter_append, rg_app (show x ≤ x + 1 by omega) (show x + 1 ≤ n by omega), rg_one, List.filter_append, List.filter_cons, hidB_no nh]
    rfl
  have l : keptN f M 0 x = ((leftU f M x).length : Int) := rfl
  rw [l]
  by_cases c : j < (leftU f M x).length
  · rw [e, List.getElem?_append_left c] at hj
    have := (leftU_mem.mp (List.mem_of_getElem? hj)).1.2
    omega
  · rw [e, List.getElem?_append_right (by omega)] at hj
    by_cases d : j = (leftU f M x).length
    · omega
    · obtain ⟨k, hk⟩ : ∃ k, j - (leftU f M x).length = k + 1 := ⟨j - (leftU f M x).length - 1, by omega⟩
      rw [hk, List.getElem?_cons_succ] at hj
      have := (rg_in.mp (List.mem_filter.mp (List.mem_of_getElem? hj)).1).1
      omega
theorem leftU_has {f : Int → Int} {M : List Int} {n x : Int} (h0 : 0 ≤ x) (h1 : x < n) (nh : ¬ Hid f M x) : x ∈ leftU f M n := leftU_mem.mpr ⟨⟨h0, h1⟩, nh⟩
/-- the folds that are told -/
structure Good (ns : List Int) (h x y : Int) (ms : List Int) : Prop where
  asc : ms.Pairwise (· < ·)
  rg : ∀ m ∈ ms, min x y ≤ m ∧ m < max x y
  nx : ¬ Hid (atD ns) ms (min x y)
  ny : ¬ Hid (atD ns) ms (max x y)
  near : keptN (atD ns) ms (min x y) (max x y) + atD ns (min x y) < h
theorem FT.good {ns : List Int} {h x y : Int} {ms : List Int} (f : FT ns h x y (some ms)) (hx : max x y < ns.length) : Good ns h x y ms := by
  obtain ⟨fs, qs, a1, a2, a3, ⟨b1, ms', e, b2, b3⟩ | ⟨_, e⟩⟩ := f
  · obtain rfl := Option.some.inj e
    have asc := a1.asc
    have nd : (fs.map (·.2)).Nodup := List.pairwise_map.mpr (List.pairwise_iff_forall_sublist.mpr fun {p q} h => by
      have := List.pairwise_iff_forall_sublist.mp asc h
      have := (a1.mem p (h.subset (.head _))).2.1
      omega)
    have nq : (qs.map (·.2)).Nodup := (a2.map _).nodup_iff.mpr nd
    have mm : ∀ m ∈ ms, m ∈ fs.map (·.2) := fun m hm => (a2.map _).mem_iff.mp (grF_mem (b2.mem_iff.mp hm))
    have rg : ∀ m ∈ ms, min x y ≤ m ∧ m < max x y := fun m hm => by
      obtain ⟨p, hp, rfl⟩ := List.mem_map.mp (mm m hm)
      have := a1.mem p hp
      omega
    have nx : ¬ Hid (atD ns) ms (min x y) := fun ⟨i, im, il, _⟩ => by have := (rg i im).1; omega
    obtain ⟨k1, k2⟩ := a1.kept hx (M := ms) (by omega) nx fun m hm _ _ => mm m hm
    refine ⟨?_, rg, nx, k2, ?_⟩
    · have n1 : ms.Nodup := b2.nodup_iff.mpr (grF_nodup nq)
      exact (List.pairwise_and_iff.mpr ⟨b3, n1⟩).imp fun {a b} h => by omega
    · have s1 : selS ms fs = selS (grF (max x y - min x y + atD ns (min x y) - h + 1) qs) qs := (selS_perm a2.symm).trans (selS_congr fun p _ => b2.mem_iff)
      rw [gr_sum nq] at s1
      rw [k1, s1]
      omega
  · cases e
/-- how many folds are told -/
theorem FT.least {ns : List Int} {h x y : Int} {r : Option (List Int)} (f : FT ns h x y r) {fs : List (Int × Int)} {ss : List Int} (w : SW (atD ns) ns.length (max x y) (min x y) fs) (p : ss.Perm (fs.map (·.1))) (d : ss.Pairwise (fun a b => b ≤ a)) :
    (r = none → ∀ k, ¬ max x y - min x y + atD ns (min x y) - h + 1 ≤ (ss.take k).sum) ∧
    (∀ ms, r = some ms → ms.length ≤ ss.length ∧ max x y - min x y + atD ns (min x y) - h + 1 ≤ (ss.take ms.length).sum ∧ ∀ k, max x y - min x y + atD ns (min x y) - h + 1 ≤ (ss.take k).sum → ms.length ≤ k) := by
  obtain ⟨gs, qs, a1, a2, a3, a4⟩ := f
  obtain rfl := w.uniq a1
  have qd : qs.Pairwise (fun a b => b.1 ≤ a.1) := a3.imp fun {a b} h => by unfold lexLe at h; omega
  obtain rfl : ss = qs.map (·.1) := perm_uniq (R := fun a b => b ≤ a) (fun a b h1 h2 => Int.le_antisymm h2 h1) (p.trans (a2.map _).symm) d (List.pairwise_map.mpr qd)
  have pos : ∀ p ∈ qs, 0 ≤ p.1 := fun p hp => (w.mem p (a2.mem_iff.mp hp)).2.1
  rcases a4 with ⟨b1, ms, rfl, b2, b3⟩ | ⟨b1, rfl⟩
  · obtain ⟨c1, c2⟩ := gr_len pos qd b1
    rw [← b2.length_eq] at c1 c2
    refine ⟨fun e => (nomatch e), fun ms' e => ?_⟩
    obtain rfl := Option.some.inj e
    refine ⟨?_, c1, c2⟩
    rw [b2.length_eq, List.length_map]
    exact grF_len _ _
  · refine ⟨fun _ k hk => ?_, fun ms' e => (nomatch e)⟩
    have : ¬ grM (max x y - min x y + atD ns (min x y) - h + 1) qs ≤ 0 := by omega
    rw [gr_le pos] at this
    apply this
    by_cases c : k ≤ qs.length
    · have mono : ∀ (l : List (Int × Int)), (∀ p ∈ l, 0 ≤ p.1) → ∀ i j, i ≤ j → frS i l ≤ frS j l := fun l => by
        induction l with
        | nil => intro _ i j _; rw [frS_nil, frS_nil]; exact Int.le_refl _
        | cons p l ih =>
          intro hp i j hij
          cases i with
          | zero => exact frS_pos hp j
          | succ i =>
            cases j with
            | zero => omega
            | succ j =>
              rw [frS_cons, frS_cons]
              have := ih (fun q hq => hp q (.tail _ hq)) i j (by omega)
              omega
      exact Int.le_trans hk (mono qs pos k qs.length c)
    · rw [show ((qs.map (·.1)).take k).sum = frS k qs from rfl, frS_all qs (by omega)] at hk
      exact hk
def ftD : Option (List Int) → PyData
  | none => .none
  | some ms => .list (ms.map PyData.int)
theorem FtV.data {ns : List Int} {h x y : Int} {v : V} {N : Lg} (f : FtV ns h x y v N) {r : Option (List Int)} (g : FT ns h x y r) {M : Lg} (s : ∀ q ∈ N, q ∈ M) : Dv M v (ftD r) := by
  cases f with
  | no f => obtain rfl := f.uniq g; exact .non
  | yes f => obtain rfl := f.uniq g; exact .ints (s _ (.head _))
theorem fl_in {α : Type} {b : Nat → Bool} {o : Nat → α} {n : Nat} {y : α} : y ∈ fl b o n ↔ ∃ u, u < n ∧ b u = true ∧ o u = y := by
  unfold fl
  rw [List.mem_map]
  constructor
  · rintro ⟨u, hu, e⟩
    have := List.mem_filter.mp hu
    exact ⟨u, List.mem_range.mp this.1, this.2, e⟩
  · rintro ⟨u, h1, h2, e⟩
    exact ⟨u, List.mem_filter.mpr ⟨List.mem_range.mpr h1, h2⟩, e⟩
/-- the least number is the number of folds that are told -/
theorem due_eq {ns : List Int} {h x y : Int} {r : Option (List Int)} (f : FT ns h x y r) (hxy : x ≤ y) {fs : List (Int × Int)} {ss : List Int} (w : SW (atD ns) ns.length y x fs) (p : ss.Perm (fs.map (·.1))) (d : ss.Pairwise (fun a b => b ≤ a))
    {dv : V} (hd : (dv = .non ∧ fl (fun u => decide (y - x + atD ns x + 1 - (ss.take u).sum ≤ h)) (fun u => ((u : Nat) : Int)) (ss.length + 1) = []) ∨ ∃ m, dv = .int m ∧ m ∈ fl (fun u => decide (y - x + atD ns x + 1 - (ss.take u).sum ≤ h)) (fun u => ((u : Nat) : Int)) (ss.length + 1) ∧ ∀ z, z ∈ fl (fun u => decide (y - x + atD ns x + 1 - (ss.take u).sum ≤ h)) (fun u => ((u : Nat) : Int)) (ss.length + 1) → m ≤ z) : dv = optV r := by
  have e1 : max x y = y := by omega
  have e2 : min x y = x := by omega
  obtain ⟨l1, l2⟩ := f.least (by rw [e1, e2]; exact w) p d
  rw [e1, e2] at l1 l2
  cases r with
  | none =>
    rcases hd with ⟨h1, _⟩ | ⟨m, h1, h2, _⟩
    · exact h1
    · obtain ⟨u, a, b, _⟩ := fl_in.mp h2
      have b := of_decide_eq_true b
      exact absurd (by omega) (l1 rfl u)
  | some ms =>
    obtain ⟨k1, k2, k3⟩ := l2 ms rfl
    have mem : (ms.length : Int) ∈ fl (fun u => decide (y - x + atD ns x + 1 - (ss.take u).sum ≤ h)) (fun u => ((u : Nat) : Int)) (ss.length + 1) := fl_in.mpr ⟨ms.length, by omega, decide_eq_true (by omega), rfl⟩
    rcases hd with ⟨_, h1⟩ | ⟨m, h1, h2, h3⟩
    · rw [h1] at mem; cases mem
    · have := h3 _ mem
      obtain ⟨u, a, b, rfl⟩ := fl_in.mp h2
      have b := of_decide_eq_true b
      have := k3 u (by omega)
      rw [h1]
      show V.int (u : Int) = V.int ms.length
      rw [show u = ms.length by omega]
def opD : Option (List Int) → PyData
  | none => .none
  | some ms => .int ms.length
theorem optV_dv {M : Lg} (r : Option (List Int)) : Dv M (optV r) (opD r) := by
  cases r with
  | none => exact .non
  | some ms => exact .int _
theorem FtV.swap {ns : List Int} {h x y : Int} {v : V} {N : Lg} (f : FtV ns h x y v N) : FtV ns h y x v N := by
  cases f with
  | no f => exact .no f.swap
  | yes f => exact .yes f.swap

/-! ### no list of folds is shorter -/
theorem frS_shift : ∀ {r : List (Int × Int)} {a : Int × Int}, (∀ q ∈ r, 0 ≤ q.1) → 0 ≤ a.1 → (a :: r).Pairwise (fun p q => q.1 ≤ p.1) → ∀ k, frS k r ≤ frS k (a :: r)
  | _, a, _, _, _, 0 => Int.le_refl _
  | [], a, _, ha, _, k + 1 => by rw [frS_nil, frS_cons, frS_nil]; omega
  | b :: r, a, hp, ha, hd, k + 1 => by
    have hd := List.pairwise_cons.mp hd
    rw [frS_cons, frS_cons]
    have := frS_shift (fun q hq => hp q (.tail _ hq)) (hp b (.head _)) hd.2 k
    have := hd.1 b (.head _)
    omega
theorem sum_perm {l m : List Int} (h : l.Perm m) : l.sum = m.sum := by
  induction h with
  | nil => rfl
  | cons x _ ih => rw [List.sum_cons, List.sum_cons, ih]
  | swap x y l => simp only [List.sum_cons]; omega
  | trans _ _ a b => exact a.trans b
theorem filt_le (P : Int × Int → Bool) : ∀ {qs : List (Int × Int)}, (∀ q ∈ qs, 0 ≤ q.1) → qs.Pairwise (fun p q => q.1 ≤ p.1) → ((qs.filter P).map (·.1)).sum ≤ frS (qs.filter P).length qs
  | [], _, _ => by rw [List.filter_nil, List.length_nil, frS_zero]; decide
  | a :: r, hp, hd => by
    have ih := filt_le P (fun q hq => hp q (.tail _ hq)) (List.pairwise_cons.mp hd).2
    rw [List.filter_cons]
    split
    · rw [List.map_cons, List.sum_cons, List.length_cons, frS_cons]; omega
    · exact Int.le_trans ih (frS_shift (fun q hq => hp q (.tail _ hq)) (hp a (.head _)) hd _)
theorem frS_mono : ∀ {l : List (Int × Int)}, (∀ p ∈ l, 0 ≤ p.1) → ∀ {i j : Nat}, i ≤ j → frS i l ≤ frS j l
  | [], _, i, j, _ => by rw [frS_nil, frS_nil]; exact Int.le_refl _
  | p :: l, hp, 0, j, _ => frS_pos hp j
  | p :: l, hp, i + 1, j + 1, h => by
    rw [frS_cons, frS_cons]
    have := frS_mono (fun q hq => hp q (.tail _ hq)) (show i ≤ j by omega)
    omega
/-- a fold within the section -/
def tch (M : List Int) (p : Int × Int) : Bool := M.any fun m => decide (p.2 ≤ m ∧ m ≤ p.2 + p.1)
def cM (M : List Int) (x : Int) : Nat := (M.filter fun m => decide (x ≤ m)).length
theorem cM_le {x z : Int} (h : x ≤ z) : ∀ M : List Int, cM M z ≤ cM M x
  | [] => Nat.le_refl _
  | a :: r => by
    have ih := cM_le h r
    unfold cM at ih ⊢
    rw [List.filter_cons, List.filter_cons]
    by_cases c : z ≤ a
    · rw [if_pos (decide_eq_true c), if_pos (decide_eq_true (by omega)), List.length_cons, List.length_cons]; omega
    · rw [if_neg (by simpa using c)]
      split
      · rw [List.length_cons]; omega
      · exact ih
theorem cM_lt {x z m : Int} (h1 : x ≤ m) (h2 : m < z) : ∀ {M : List Int}, m ∈ M → cM M z + 1 ≤ cM M x
  | a :: r, hm => by
    have le := cM_le (show x ≤ z by omega) r
    rcases List.mem_cons.mp hm with rfl | hm
    · unfold cM at le ⊢
      rw [List.filter_cons, List.filter_cons, if_neg (by simp; omega), if_pos (decide_eq_true h1), List.length_cons]; omega
    · have ih := cM_lt h1 h2 hm
      unfold cM at ih ⊢
      rw [List.filter_cons, List.filter_cons]
      by_cases c : z ≤ a
      · rw [if_pos (decide_eq_true c), if_pos (decide_eq_true (by omega)), List.length_cons, List.length_cons]; omega
      · rw [if_neg (by simpa using c)]
        split
        · rw [List.length_cons]; omega
        · exact ih
theorem keptN_pos (f : Int → Int) (M : List Int) (a b : Int) : 0 ≤ keptN f M a b := by unfold keptN; omega
theorem SW.low {f : Int → Int} {n last x : Int} {fs : List (Int × Int)} (h : SW f n last x fs) (hl : last < n) {M : List Int} (hx : x ≤ last) (nx : ¬ Hid f M x) (ny : ¬ Hid f M last) :
    last - x - keptN f M x last ≤ ((fs.filter (tch M)).map (·.1)).sum ∧ (fs.filter (tch M)).length ≤ cM M x := by
  induction h with
  | done c =>
    rename_i x
    obtain rfl : x = last := by omega
    have := keptN_pos f M x x
    rw [List.filter_nil, List.map_nil, List.sum_nil, List.length_nil]
    exact ⟨by omega, Nat.zero_le _⟩
  | sec c s l r ih =>
    rename_i x e fs
    have lo := s.lo
    obtain ⟨i1, i2⟩ := ih (by omega) (hid_after nx s (by omega))
    have k1 := keptN_app f M (show x ≤ x + 1 by omega) (show x + 1 ≤ last by omega)
    have k2 := keptN_app f M (show x + 1 ≤ e + 1 by omega) (show e + 1 ≤ last by omega)
    have k3 := keptN_one nx
    rw [List.filter_cons]
    by_cases t : tch M (e - x, x) = true
    · rw [if_pos t, List.map_cons, List.sum_cons, List.length_cons]
      have := keptN_pos f M (x + 1) (e + 1)
      obtain ⟨m, hm, ht⟩ := List.any_eq_true.mp t
      have ht := of_decide_eq_true ht
      have := cM_lt (x := x) (z := e + 1) ht.1 (by have := ht.2; dsimp only at this; omega) hm
      exact ⟨by dsimp only; omega, by omega⟩
    · rw [if_neg t]
      have k4 := keptN_all (f := f) (M := M) (a := x + 1) (b := e + 1) (by omega) fun k a b ⟨i, im, il, ij⟩ => ?_
      · have := cM_le (show x ≤ e + 1 by omega) M
        exact ⟨by omega, by omega⟩
      by_cases g : i < x
      · exact nx ⟨i, im, g, fun j c1 c2 => ij j c1 (by omega)⟩
      · exact t (List.any_eq_true.mpr ⟨i, im, decide_eq_true ⟨by dsimp only; omega, by dsimp only; omega⟩⟩)
  | inn c s l r ih =>
    rename_i x e fs
    have nm : x ∉ M := fun h => ny ⟨x, h, c, fun j a b => s.deep j a (by omega)⟩
    obtain ⟨i1, i2⟩ := ih (by omega) (hid_next nx nm)
    have k1 := keptN_app f M (show x ≤ x + 1 by omega) (show x + 1 ≤ last by omega)
    have k3 := keptN_one nx
    have := cM_le (show x ≤ x + 1 by omega) M
    exact ⟨by omega, by omega⟩
theorem FT.best {ns : List Int} {h x y : Int} {r : Option (List Int)} (f : FT ns h x y r) (hx : max x y < ns.length) {M : List Int} (nx : ¬ Hid (atD ns) M (min x y)) (ny : ¬ Hid (atD ns) M (max x y))
    (near : keptN (atD ns) M (min x y) (max x y) + atD ns (min x y) < h) : ∃ ms, r = some ms ∧ ms.length ≤ M.length := by
  have f0 := f
  obtain ⟨fs, qs, a1, a2, a3, -⟩ := f0
  have qd : qs.Pairwise (fun a b => b.1 ≤ a.1) := a3.imp fun {a b} h => by unfold lexLe at h; omega
  have pos : ∀ p ∈ qs, 0 ≤ p.1 := fun p hp => (a1.mem p (a2.mem_iff.mp hp)).2.1
  obtain ⟨l1, l2⟩ := f.least a1 (a2.map (·.1)) (List.pairwise_map.mpr qd)
  obtain ⟨w1, w2⟩ := a1.low hx (M := M) (by omega) nx ny
  have pf : (qs.filter (tch M)).Perm (fs.filter (tch M)) := a2.filter _
  have s1 := filt_le (tch M) pos qd
  rw [sum_perm (pf.map (·.1)), pf.length_eq] at s1
  have ml : (fs.filter (tch M)).length ≤ M.length := Nat.le_trans w2 (List.length_filter_le _ _)
  have s2 := frS_mono pos ml
  have key : max x y - min x y + atD ns (min x y) - h + 1 ≤ ((qs.map (·.1)).take M.length).sum := by
    show _ ≤ frS M.length qs
    omega
  cases r with
  | none => exact absurd key (l1 rfl _)
  | some ms => exact ⟨ms, rfl, (l2 ms rfl).2.2 _ key⟩

/-- can the two lines be shown together with these folds -/
def Shn (ns ms : List Int) (h u v : Int) : Prop := ¬ Hid (atD ns) ms u ∧ ¬ Hid (atD ns) ms v ∧ keptN (atD ns) ms (min u v) (max u v) + atD ns (min u v) < h
noncomputable def shB (ns ms : List Int) (h u v : Int) : Bool := @decide (Shn ns ms h u v) (Classical.propDecidable _)
theorem shB_iff {ns ms : List Int} {h u v : Int} : shB ns ms h u v = true ↔ Shn ns ms h u v := by
  unfold shB
  exact @decide_eq_true_iff _ (Classical.propDecidable _)
theorem shB_no {ns ms : List Int} {h u v : Int} (g : ¬ Shn ns ms h u v) : shB ns ms h u v = false := Bool.eq_false_iff.mpr fun e => g (shB_iff.mp e)
theorem Good.shn {ns ms : List Int} {h u v : Int} (g : Good ns h u v ms) : Shn ns ms h u v := by
  refine ⟨?_, ?_, g.near⟩
  · by_cases c : u ≤ v
    · have := g.nx; rwa [show min u v = u by omega] at this
    · have := g.ny; rwa [show max u v = u by omega] at this
  · by_cases c : u ≤ v
    · have := g.ny; rwa [show max u v = v by omega] at this
    · have := g.nx; rwa [show min u v = v by omega] at this
theorem Shn.ends {ns ms : List Int} {h u v : Int} (g : Shn ns ms h u v) : ¬ Hid (atD ns) ms (min u v) ∧ ¬ Hid (atD ns) ms (max u v) := by
  by_cases c : u ≤ v
  · rw [show min u v = u by omega, show max u v = v by omega]; exact ⟨g.1, g.2.1⟩
  · rw [show min u v = v by omega, show max u v = u by omega]; exact ⟨g.2.1, g.1⟩
theorem fl_getE (ms : List Int) (f : Int → Bool) : fl (fun u => f (ms.getD u default)) (fun u => ms.getD u default) ms.length = ms.filter f := by
  unfold fl
  have e : ms = (List.range ms.length).map fun u => ms.getD u default := by
    refine List.ext_getElem? fun i => ?_
    rw [List.getElem?_map]
    by_cases c : i < ms.length
    · rw [List.getElem?_range c, List.getElem?_eq_getElem c]
      show _ = some (ms.getD i default)
      rw [List.getD_eq_getElem?_getD, List.getElem?_eq_getElem c]
      rfl
    · rw [List.getElem?_eq_none (by omega), List.getElem?_eq_none (by simp; omega)]
      rfl
  conv => rhs; rw [e]
  rw [List.filter_map]
  rfl
/-- where both lines are shown -/
def BoIs (F : List Int) (h x y : Int) (v : V) (N : Lg) : Prop :=
  (max 0 (max x y - h + 1) ≤ min x y - atD F (min x y) ∧ ∃ p, v = .ref p ∧ N = [(p, .tup [.int (max 0 (max x y - h + 1)), .int (min x y - atD F (min x y))])]) ∨ (¬ max 0 (max x y - h + 1) ≤ min x y - atD F (min x y) ∧ v = .non ∧ N = [])
theorem both_iv {F : List Int} (ho : Outline F) {h x y : Int} (h3 : 1 ≤ h) (x0 : 0 ≤ x) (x1 : x < F.length) (y0 : 0 ≤ y) (y1 : y < F.length) :
    max (max 0 (x - h + 1)) (max 0 (y - h + 1)) = max 0 (max x y - h + 1) ∧ min (x - atD F x) (y - atD F y) = min x y - atD F (min x y) := by
  refine ⟨by omega, ?_⟩
  by_cases c : x ≤ y
  · have := ho.mono x0 c y1
    rw [show min x y = x by omega]; omega
  · have := ho.mono y0 (show y ≤ x by omega) x1
    rw [show min x y = y by omega]; omega
/-- a line that is shown is in the view -/
theorem vwI_has {F : List Int} (ho : Outline F) {h s t i : Int} (ht : TopIs (atD F) F.length s t) (s0 : 0 ≤ s) (i1 : i < F.length) (i0 : 0 ≤ i) (hs : s ≤ i - atD F i) (hh : i - s < h) : i ∈ vwI F h s t := by
  have t0 := ht.lo
  have t1 := ht.hi
  have t2 := ht.ok
  have dt := ho.at t0 t1
  have ti : t ≤ i := by
    refine Classical.byContradiction fun c => ?_
    have := ht.least i i0 (by omega)
    omega
  have hl : (vwH F s t).length = (t - s).toNat := by
    have l1 : (hdI F t).length = (atD F t).toNat := by rw [hdI_eq ho t0 t1, List.length_map, List.length_range]
    unfold vwH
    by_cases c : 0 < t - atD F t - s
    · have tp : 0 < t := by omega
      have d1 := ho.at (i := t - 1) (by omega) (by omega)
      have lt := ht.least (t - 1) (by omega) (by omega)
      have l2 : (hdI F (t - 1)).length = (atD F (t - 1)).toNat := by rw [hdI_eq ho (i := t - 1) (by omega) (by omega), List.length_map, List.length_range]
      rw [if_pos c, List.length_append, l1]
      have l3 : (cutI (hdI F (t - 1)) (some (-(t - atD F t - s))) none).length = (t - atD F t - s).toNat := by
        unfold cutI
        have e : HT.sIx (hdI F (t - 1)).length 0 (some (-(t - atD F t - s))) = (-(t - atD F t - s) + ((hdI F (t - 1)).length : Int)).toNat := by
          show (if -(t - atD F t - s) < 0 then (-(t - atD F t - s) + ((hdI F (t - 1)).length : Int)).toNat else min (-(t - atD F t - s)).toNat (hdI F (t - 1)).length) = _
          rw [if_pos (by omega)]
        rw [e, List.length_take, List.length_drop]
        show min ((hdI F (t - 1)).length - _) _ = _
        omega
      rw [l3]; omega
    · rw [if_neg c, l1]; omega
  rw [vwI_take (by omega)]
  refine List.mem_iff_getElem?.mpr ⟨(i - s).toNat, ?_⟩
  rw [List.getElem?_take_of_lt (by omega), List.getElem?_append_right (by omega), hl]
  have := rgI_get (a := t) (b := F.length) (i := (i - t).toNat) (by omega)
  rw [show (i - s).toNat - (t - s).toNat = (i - t).toNat by omega, this]
  congr 1
  omega
def sp_scrolls_for_both  : Sp := fun vs H Q _ => ∃ (a : Addr) (ns : List Int) (h x y : Int) (L : Lg), vs = [.ref a, .int h, .int x, .int y] ∧ Led H (L) ∧ ((a, .lst (ns.map V.int)) ∈ L) ∧ (Outline ns) ∧ (1 ≤ h) ∧ (h ≤ 400) ∧ (0 ≤ x) ∧ (x < ns.length) ∧ (0 ≤ y) ∧ (y < ns.length) ∧ ∀ (v : V) (N : Lg), (BoIs ns h x y v N) → Tr ((N ++ L)) (fun H => Q (v) H)
theorem use_scrolls_for_both {L : Lg} {Q : VK} {E : XK} {a : Addr} {ns : List Int} {h x y : Int} (hm : (a, .lst (ns.map V.int)) ∈ L) (ho : Outline ns) (h3 : 1 ≤ h) (h4 : h ≤ 400) (x0 : 0 ≤ x) (x1 : x < ns.length) (y0 : 0 ≤ y) (y1 : y < ns.length) (q : ∀ (v : V) (N : Lg), (BoIs ns h x y v N) → Tr ((N ++ L)) (fun H => Q (v) H)) : Tr L fun H => sp_scrolls_for_both [.ref a, .int h, .int x, .int y] H Q E :=
  fun H l => ⟨a, ns, h, x, y, L, rfl, l, hm, ho, h3, h4, x0, x1, y0, y1, q⟩

theorem ok_scrolls_for_both (D : Df K mg "scrolls_for_both" s_scrolls_for_both) (B : Blt mg) (k_check_outline : Ok P w K mg base CX0 3 "check_outline" ["outline"] sp_check_outline) (k_check_line : Ok P w K mg base CX0 2 "check_line" ["outline", "line"] sp_check_line) (k_check_height : Ok P w K mg base CX0 2 "check_height" ["height"] sp_check_height) (k_interval_for : Ok P w K mg base CX0 1 "interval_for" ["outline", "height", "line"] sp_interval_for) : Ok P w K mg base CX0 4 "scrolls_for_both" ["outline", "height", "line", "other"] sp_scrolls_for_both := by
  obtain ⟨f, fd, hm, F⟩ := D
  refine ⟨f, fd, hm, F.kp, F.binds (fun _ _ _ _ _ _ us hl => match us, hl with | [_, _, _, _], _ => rfl), FunOkG F sc_scrolls_for_both (fun vs H Q E h => ?_) (fun cdv A outer s H vs Q E hr h => ?_), F.lk⟩
  · obtain ⟨_, _, _, _, _, _, rfl, _⟩ := h; rfl
  obtain ⟨a, ns, h, x, y, L, rfl, l, hm, ho, h3, h4, x0, x1, y0, y1, q⟩ := h
  refine ⟨_, PSs.nox (pss_cons (ps_expr (pe_callG k_check_outline (hr.mono (by omega)) pas0 (pa_cons (pv 0) pa_nil)))
      (pss_cons (ps_expr (pe_callG k_check_height (hr.mono (by omega)) pas0 (pa_cons (pv 1) pa_nil)))
      (pss_cons (ps_expr (pe_callG k_check_line (hr.mono (by omega)) pas0 (pa_cons (pv 0) (pa_cons (pv 2) pa_nil))))
      (pss_cons (ps_expr (pe_callG k_check_line (hr.mono (by omega)) pas0 (pa_cons (pv 0) (pa_cons (pv 3) pa_nil))))
      (pss_cons (ps_par (i := 4) (j := 5) (by rfl) sc_scrolls_for_both.nd rfl rfl (by decide) rfl rfl (pa_cons (pe_callG k_interval_for (hr.mono (by omega)) pas0 (pa_cons (pv 0) (pa_cons (pv 1) (pa_cons (pv 2) pa_nil)))) (pa_cons (pe_callG k_interval_for (hr.mono (by omega)) pas0 (pa_cons (pv 0) (pa_cons (pv 1) (pa_cons (pv 3) pa_nil)))) pa_nil)) (by rfl))
      (pss_cons (ps_if (PW.pt (pw_or (pt_cmpR op_isN1 (pv 4) pe_non (nomark _)) (pw_or1 (pt_cmpR op_isN1 (pv 5) pe_non (nomark _))))) (pss_one (ps_ret pe_non))
        pss_nil)
      (pss_cons (ps_par (i := 6) (j := 7) (by rfl) sc_scrolls_for_both.nd rfl rfl (by decide) rfl rfl (pa_cons (pe_callB (c_max2 rfl) rfl B.max_ boot_max (pa_cons (pe_ix ix_tup (pv 4) pe_int (fun _ _ => rfl)) (pa_cons (pe_ix ix_tup (pv 5) pe_int (fun _ _ => rfl)) pa_nil))) (pa_cons (pe_callB (c_min2 rfl) rfl B.min_ boot_min (pa_cons (pe_ix ix_tup (pv 4) pe_int (fun _ _ => rfl)) (pa_cons (pe_ix ix_tup (pv 5) pe_int (fun _ _ => rfl)) pa_nil))) pa_nil)) (by rfl))
      (pss_one (ps_ret (pe_ifExp (pt_cmpR op_le (pv 6) (pv 7) (nomark _)) (pe_tup (pa_cons (pv 6) (pa_cons (pv 7) pa_nil))) pe_non)))))))))), ?_⟩
  rw [show L2.start ["outline", "height", "line", "other", "first", "second", "least", "greatest"] [.ref a, .int h, .int x, .int y] = [some (.ref a), some (.int h), some (.int x), some (.int y), none, none, none, none] from rfl]
  refine Tr.of ?_ l
  obtain ⟨R_hm, P_hm⟩ := Pick.of_mem hm
  repeat walk_at "hz"
  have hl := ho.len
  obtain ⟨b1, b2⟩ := both_iv ho h3 x0 x1 y0 y1
  have mo : ∀ z : Int, 0 ≤ z → z < ns.length → z - atD ns z ≥ 0 := fun z a b => by have := ho.at a b; omega
  refine use_check_outline hm ho ?_
  repeat walk_at "hz"
  refine use_check_height h3 h4 ?_
  repeat walk_at "hz"
  refine use_check_line hm x0 x1 ?_
  repeat walk_at "hz"
  refine use_check_line hm y0 y1 ?_
  repeat walk_at "hz"
  refine use_interval_for hm x0 x1 (by omega) h3 h4 fun v1 N1 hv1 => ?_
  repeat walk_at "hz"
  refine use_interval_for (by simp [hm]) y0 y1 (by omega) h3 h4 fun v2 N2 hv2 => ?_
  rcases hv1 with ⟨c1, p1, rfl, rfl⟩ | ⟨c1, rfl, rfl⟩
  · rcases hv2 with ⟨c2, p2, rfl, rfl⟩ | ⟨c2, rfl, rfl⟩
    · simp only [List.map_cons, List.map_nil, List.cons_append, List.nil_append]
      repeat walk_at "hz"
      rw [b1, b2]
      refine t_iteD (fun c => ?_) fun c => ?_
      · repeat walk_at "hz"
        rename_i p3
        exact (q (.ref p3) [(p3, .tup [.int (max 0 (max x y - h + 1)), .int (min x y - atD ns (min x y))])] (.inl ⟨c, p3, rfl, rfl⟩)).sub (by walk_at "sb")
      · repeat walk_at "hz"
        exact (q .non [] (.inr ⟨c, rfl, rfl⟩)).sub (by walk_at "sb")
    · repeat walk_at "hz"
      refine (q .non [] (.inr ⟨?_, rfl, rfl⟩)).sub (by walk_at "sb")
      omega
  · repeat walk_at "hz"
    refine (q .non [] (.inr ⟨?_, rfl, rfl⟩)).sub (by walk_at "sb")
    omega
/-- what the law's own search returns, and what is new -/
def LbIs (ns ms : List Int) (h u v : Int) (w : V) (N : Lg) : Prop :=
  (Shn ns ms h u v ∧ ∃ p, w = .ref p ∧ N = [(p, .tup [.int (max 0 (max (keptN (atD ns) ms 0 u) (keptN (atD ns) ms 0 v) - h + 1)), .int (min (keptN (atD ns) ms 0 u) (keptN (atD ns) ms 0 v) - atD ns (min u v))])]) ∨ (¬ Shn ns ms h u v ∧ w = .non ∧ N = [])
theorem keptN_mono (f : Int → Int) (M : List Int) {a b : Int} (h0 : 0 ≤ a) (h : a ≤ b) : keptN f M 0 a ≤ keptN f M 0 b := by
  have := keptN_app f M h0 h
  have := keptN_pos f M a b
  omega
/-- the places of two lines that are left -/
theorem left_at {ns ms : List Int} {u : Int} (u0 : 0 ≤ u) (u1 : u < ns.length) (nh : ¬ Hid (atD ns) ms u) : 0 ≤ keptN (atD ns) ms 0 u ∧ keptN (atD ns) ms 0 u < (leftU (atD ns) ms ns.length).length ∧ atD (leftU (atD ns) ms ns.length) (keptN (atD ns) ms 0 u) = u ∧ atD ((leftU (atD ns) ms ns.length).map (atD ns)) (keptN (atD ns) ms 0 u) = atD ns u := by
  obtain ⟨j, hj⟩ := List.mem_iff_getElem?.mp (leftU_has u0 u1 nh : u ∈ leftU (atD ns) ms ns.length)
  have e := leftU_idx u0 u1 nh hj
  have jl := (List.getElem?_eq_some_iff.mp hj).1
  rw [← e]
  have a1 := atD_nat hj
  exact ⟨by omega, by omega, a1, by rw [atD_map (atD ns) (by omega) (by omega), a1]⟩
theorem shn_iff {ns ms : List Int} (ho : Outline ns) {h u v : Int} (u0 : 0 ≤ u ∧ u < ns.length) (v0 : 0 ≤ v ∧ v < ns.length) (nu : ¬ Hid (atD ns) ms u) (nv : ¬ Hid (atD ns) ms v) (oF : Outline ((leftU (atD ns) ms ns.length).map (atD ns))) :
    (max 0 (max (keptN (atD ns) ms 0 u) (keptN (atD ns) ms 0 v) - h + 1) ≤ min (keptN (atD ns) ms 0 u) (keptN (atD ns) ms 0 v) - atD ((leftU (atD ns) ms ns.length).map (atD ns)) (min (keptN (atD ns) ms 0 u) (keptN (atD ns) ms 0 v)) ↔ Shn ns ms h u v) ∧
    atD ((leftU (atD ns) ms ns.length).map (atD ns)) (min (keptN (atD ns) ms 0 u) (keptN (atD ns) ms 0 v)) = atD ns (min u v) := by
  obtain ⟨a1, a2, a3, a4⟩ := left_at u0.1 u0.2 nu
  obtain ⟨b1, b2, b3, b4⟩ := left_at v0.1 v0.2 nv
  have fin : ∀ x y : Int, 0 ≤ x → x ≤ y → y < ns.length → ¬ Hid (atD ns) ms x → (max 0 (keptN (atD ns) ms 0 y - h + 1) ≤ keptN (atD ns) ms 0 x - atD ns x ↔ keptN (atD ns) ms x y + atD ns x < h) := fun x y x0 xy yn nx => by
    have e := keptN_app (atD ns) ms x0 xy
    obtain ⟨c1, c2, c3, c4⟩ := left_at x0 (by omega) nx
    have d := oF.at c1 (by rw [List.length_map]; exact c2)
    rw [c4] at d
    omega
  by_cases c : u ≤ v
  · have m := keptN_mono (atD ns) ms u0.1 c
    rw [show min (keptN (atD ns) ms 0 u) (keptN (atD ns) ms 0 v) = keptN (atD ns) ms 0 u by omega, show max (keptN (atD ns) ms 0 u) (keptN (atD ns) ms 0 v) = keptN (atD ns) ms 0 v by omega, a4, show min u v = u by omega]
    refine ⟨?_, rfl⟩
    rw [fin u v u0.1 c v0.2 nu]
    unfold Shn
    rw [show min u v = u by omega, show max u v = v by omega]
    exact ⟨fun g => ⟨nu, nv, g⟩, fun g => g.2.2⟩
  · have m := keptN_mono (atD ns) ms v0.1 (show v ≤ u by omega)
    rw [show min (keptN (atD ns) ms 0 u) (keptN (atD ns) ms 0 v) = keptN (atD ns) ms 0 v by omega, show max (keptN (atD ns) ms 0 u) (keptN (atD ns) ms 0 v) = keptN (atD ns) ms 0 u by omega, b4, show min u v = v by omega]
    refine ⟨?_, rfl⟩
    rw [fin v u v0.1 (by omega) u0.2 nv]
    unfold Shn
    rw [show min u v = v by omega, show max u v = u by omega]
    exact ⟨fun g => ⟨nu, nv, g⟩, fun g => g.2.2⟩
def sp_law_both  : Sp := fun vs H Q _ => ∃ (a b c : Addr) (ns ms : List Int) (h u v : Int) (L : Lg), vs = [.ref a, .int h, .ref b, .ref c] ∧ Led H (L) ∧ ((a, .lst (ns.map V.int)) ∈ L) ∧ ((b, .lst (ms.map V.int)) ∈ L) ∧ ((c, .tup [.int u, .int v]) ∈ L) ∧ (Outline ns) ∧ (FoldsOk ns.length ms) ∧ (1 ≤ h) ∧ (h ≤ 400) ∧ (0 ≤ u ∧ u < ns.length) ∧ (0 ≤ v ∧ v < ns.length) ∧ ∀ (w' : V) (N : Lg), (LbIs ns ms h u v w' N) → Tr ((N ++ L)) (fun H => Q (w') H)
theorem use_law_both {L : Lg} {Q : VK} {E : XK} {a b c : Addr} {ns ms : List Int} {h u v : Int} (hm : (a, .lst (ns.map V.int)) ∈ L) (hb : (b, .lst (ms.map V.int)) ∈ L) (hc : (c, .tup [.int u, .int v]) ∈ L) (ho : Outline ns) (hf : FoldsOk ns.length ms) (h3 : 1 ≤ h) (h4 : h ≤ 400) (u0 : 0 ≤ u ∧ u < ns.length) (v0 : 0 ≤ v ∧ v < ns.length) (q : ∀ (w' : V) (N : Lg), (LbIs ns ms h u v w' N) → Tr ((N ++ L)) (fun H => Q (w') H)) : Tr L fun H => sp_law_both [.ref a, .int h, .ref b, .ref c] H Q E :=
  fun H l => ⟨a, b, c, ns, ms, h, u, v, L, rfl, l, hm, hb, hc, ho, hf, h3, h4, u0, v0, q⟩

theorem ok_law_both (D : Df K mg "_law_both" s_law_both) (B : Blt mg) (k_scrolls_for_both : Ok P w K mg base CX0 4 "scrolls_for_both" ["outline", "height", "line", "other"] sp_scrolls_for_both) (k_lines_left : Ok P w K mg base CX0 4 "lines_left" ["outline", "folds"] sp_lines_left) (k_folded_outline : Ok P w K mg base CX0 5 "folded_outline" ["outline", "folds"] sp_folded_outline) : Ok P w K mg base CX0 6 "_law_both" ["depths", "tall", "marks", "pair"] sp_law_both := by
  obtain ⟨f, fd, hm, F⟩ := D
  refine ⟨f, fd, hm, F.kp, F.binds (fun _ _ _ _ _ _ us hl => match us, hl with | [_, _, _, _], _ => rfl), FunOkG F sc_law_both (fun vs H Q E h => ?_) (fun cdv A outer s H vs Q E hr h => ?_), F.lk⟩
  · obtain ⟨_, _, _, _, _, _, _, _, _, rfl, _⟩ := h; rfl
  obtain ⟨a, b, c, ns, ms, h, u, v, L, rfl, l, hm, hb, hc, ho, hf, h3, h4, u0, v0, q⟩ := h
  refine ⟨_, PSs.nox (pss_cons (ps_set (i := 4) sc_law_both.nd rfl (.inl rfl) (pe_callG k_lines_left (hr.mono (by omega)) pas0 (pa_cons (pv 0) (pa_cons (pv 2) pa_nil))))
      (pss_cons (ps_if (PW.pt (pw_or (pt_cmpR op_notIn_seq (pe_ix ix_tup (pv 3) pe_int (fun _ _ => rfl)) (pv 4) (by rfl)) (pw_or1 (pt_cmpR op_notIn_seq (pe_ix ix_tup (pv 3) pe_int (fun _ _ => rfl)) (pv 4) (by rfl))))) (pss_one (ps_ret pe_non))
        pss_nil)
      (pss_one (ps_ret (pe_callG k_scrolls_for_both (hr.mono (by omega)) pas0 (pa_cons (pe_callG k_folded_outline (hr.mono (by omega)) pas0 (pa_cons (pv 0) (pa_cons (pv 2) pa_nil))) (pa_cons (pv 1) (pa_cons (pe_bm PySem.F.plainAttrs_list PySem.F.slot_list_index PySem.F.type_list_index mt_index (pv 4) (pa_cons (pe_ix ix_tup (pv 3) pe_int (fun _ _ => rfl)) pa_nil)) (pa_cons (pe_bm PySem.F.plainAttrs_list PySem.F.slot_list_index PySem.F.type_list_index mt_index (pv 4) (pa_cons (pe_ix ix_tup (pv 3) pe_int (fun _ _ => rfl)) pa_nil)) pa_nil))))))))), ?_⟩
  rw [show L2.start ["depths", "tall", "marks", "pair", "left"] [.ref a, .int h, .ref b, .ref c] = [some (.ref a), some (.int h), some (.ref b), some (.ref c), none] from rfl]
  refine Tr.of ?_ l
  obtain ⟨R_hm, P_hm⟩ := Pick.of_mem hm
  obtain ⟨R_hb, P_hb⟩ := Pick.of_mem hb
  obtain ⟨R_hc, P_hc⟩ := Pick.of_mem hc
  repeat walk_at "hz"
  have hl := ho.len
  have m0 : ∀ m ∈ ms, 0 ≤ m := fun m hm => (hf.rg m hm).1
  have oF := left_outline ho (M := ms) m0
  refine use_lines_left hm hb ho hf fun pl => ?_
  repeat walk_at "hz"
  have lm : ∀ x : Int, x ∈ leftU (atD ns) ms ns.length ↔ (0 ≤ x ∧ x < ns.length) ∧ ¬ Hid (atD ns) ms x := fun x => leftU_mem
  by_cases c1 : u ∈ leftU (atD ns) ms ns.length
  · rw [decide_eq_true c1]
    have nu := ((lm u).mp c1).2
    repeat walk_at "hz"
    by_cases c2 : v ∈ leftU (atD ns) ms ns.length
    · rw [decide_eq_true c2]
      have nv := ((lm v).mp c2).2
      repeat walk_at "hz"
      refine use_folded_outline (by simp [hm]) (by simp [hb]) ho hf fun pf => ?_
      repeat walk_at "hz"
      refine t_indexI (by walk_at "pk") c1 fun j1 hj1 => ?_
      repeat walk_at "hz"
      refine t_indexI (by walk_at "pk") c2 fun j2 hj2 => ?_
      have i1 := leftU_idx u0.1 u0.2 nu hj1
      have i2 := leftU_idx v0.1 v0.2 nv hj2
      obtain ⟨a1, a2, -, -⟩ := left_at u0.1 u0.2 nu
      obtain ⟨b1, b2, -, -⟩ := left_at v0.1 v0.2 nv
      repeat walk_at "hz"
      refine use_scrolls_for_both (by walk_at "mb") oF h3 h4 (by omega) (by rw [List.length_map]; omega) (by omega) (by rw [List.length_map]; omega) fun w' N hw => ?_
      obtain ⟨s1, s2⟩ := shn_iff ho u0 v0 nu nv oF (h := h)
      rw [i1, i2] at hw
      unfold BoIs at hw
      rw [s2] at hw s1
      rcases hw with ⟨k1, p, rfl, rfl⟩ | ⟨k1, rfl, rfl⟩
      · exact (q _ _ (.inl ⟨s1.mp k1, p, rfl, rfl⟩)).sub (by walk_at "sb")
      · exact (q _ _ (.inr ⟨fun g => k1 (s1.mpr g), rfl, rfl⟩)).sub (by walk_at "sb")
    · rw [decide_eq_false c2]
      repeat walk_at "hz"
      exact (q .non [] (.inr ⟨fun g => c2 ((lm v).mpr ⟨v0, g.2.1⟩), rfl, rfl⟩)).sub (by walk_at "sb")
  · rw [decide_eq_false c1]
    repeat walk_at "hz"
    exact (q .non [] (.inr ⟨fun g => c1 ((lm u).mpr ⟨u0, g.1⟩), rfl, rfl⟩)).sub (by walk_at "sb")

def sp_law_pair_right  : Sp := fun vs H Q _ => ∃ (a b c : Addr) (ns : List Int) (h u v : Int) (m : Nat) (o : HO) (L : Lg), vs = [.ref a, .ref b, .int h, .ref c] ∧ Led H ((a, o) :: L) ∧ ((b, .lst (ns.map V.int)) ∈ L) ∧ ((c, .tup [.int u, .int v]) ∈ L) ∧ (Outline ns) ∧ (1 ≤ h) ∧ (h ≤ 400) ∧ (0 ≤ u ∧ u < ns.length) ∧ (0 ≤ v ∧ v < ns.length) ∧ (Bag m o) ∧ (m ≤ 100000) ∧ ∀ (o' : HO), (Bag (m + 1) o') → Tr ((a, o') :: L) (fun H => Q (.bl true) H)
theorem use_law_pair_right {L0  L : Lg} {Q : VK} {E : XK} {a b c : Addr} {ns : List Int} {h u v : Int} {m : Nat} {o : HO} (hp0 : Pick (a) (o) L0 L) (hm : (b, .lst (ns.map V.int)) ∈ L) (hc : (c, .tup [.int u, .int v]) ∈ L) (ho : Outline ns) (h3 : 1 ≤ h) (h4 : h ≤ 400) (u0 : 0 ≤ u ∧ u < ns.length) (v0 : 0 ≤ v ∧ v < ns.length) (hs : Bag m o) (hn : m ≤ 100000) (q : ∀ (o' : HO), (Bag (m + 1) o') → Tr ((a, o') :: L) (fun H => Q (.bl true) H)) : Tr L0 fun H => sp_law_pair_right [.ref a, .ref b, .int h, .ref c] H Q E :=
  fun H l => ⟨a, b, c, ns, h, u, v, m, o, L, rfl, l.pick hp0, hm, hc, ho, h3, h4, u0, v0, hs, hn, q⟩

theorem ok_law_pair_right (D : Df K mg "_law_pair_right" s_law_pair_right) (B : Blt mg) (k_view : Ok P w K mg base CX0 5 "view" ["outline", "height", "scroll"] sp_view) (k_lines_left : Ok P w K mg base CX0 4 "lines_left" ["outline", "folds"] sp_lines_left) (k_folded_outline : Ok P w K mg base CX0 5 "folded_outline" ["outline", "folds"] sp_folded_outline) (k_folds_to_show : Ok P w K mg base CX0 4 "folds_to_show" ["outline", "height", "line", "other"] sp_folds_to_show) (k__law_draw : Ok P w K mg base CX0 1 "_law_draw" ["bag", "many"] sp_law_draw) (k__law_above : Ok P w K mg base CX0 1 "_law_above" ["depths", "spot"] sp_law_above) (k__law_both : Ok P w K mg base CX0 6 "_law_both" ["depths", "tall", "marks", "pair"] sp_law_both) : Ok P w K mg base CX0 7 "_law_pair_right" ["bag", "depths", "tall", "pair"] sp_law_pair_right := by
  obtain ⟨f, fd, hm, F⟩ := D
  refine ⟨f, fd, hm, F.kp, F.binds (fun _ _ _ _ _ _ us hl => match us, hl with | [_, _, _, _], _ => rfl), FunOkG F sc_law_pair_right (fun vs H Q E h => ?_) (fun cdv A outer s H vs Q E hr h => ?_), F.lk⟩
  · obtain ⟨_, _, _, _, _, _, _, _, _, _, rfl, _⟩ := h; rfl
  obtain ⟨a, b, c, ns, h, u, v, m, o, L, rfl, l, hm, hc, ho, h3, h4, u0, v0, hs, hn, q⟩ := h
  refine ⟨_, PSs.nox (pss_cons (ps_set (i := 4) sc_law_pair_right.nd rfl (.inl rfl) (pe_callG k_folds_to_show (hr.mono (by omega)) pas0 (pa_cons (pv 1) (pa_cons (pv 2) (pa_cons (pe_ix ix_tup (pv 3) pe_int (fun _ _ => rfl)) (pa_cons (pe_ix ix_tup (pv 3) pe_int (fun _ _ => rfl)) pa_nil))))))
      (pss_cons (ps_if (pt_cmpR op_isN1 (pv 4) pe_non (nomark _)) (pss_cons (ps_set (i := 5) sc_law_pair_right.nd rfl (.inr rfl) (pe_callG k__law_above (hr.mono (by omega)) pas0 (pa_cons (pv 1) (pa_cons (pe_callB (cr_maxT2 rfl hr.rm.units) rfl B.max_ boot_max (pa_cons (pv 3) pa_nil)) pa_nil))))
      (pss_cons (ps_setLc (i := 6) (own := [("spot", 7)]) (g := gName 7) (by rfl) sc_law_pair_right.nd rfl rfl (sw_true rfl rfl rfl (by decide +kernel)) (pi_range2 rfl B.range_ (pa_cons (pe_callB (cr_minT2 rfl hr.rm.units) rfl B.min_ boot_min (pa_cons (pv 3) pa_nil)) (pa_cons (pe_callB (cr_maxT2 rfl hr.rm.units) rfl B.max_ boot_max (pa_cons (pv 3) pa_nil)) pa_nil))) (blkOk_by (own := [("spot", 7)]) (N := ["bag", "depths", "tall", "pair", "marks", "after", "able", "spot", "both", "left", "rows", "one"]) (sc := defScope s_law_pair_right) (by decide +kernel)) (fun _ _ _ _ _ => (pg_name (i := 7) sc_law_pair_right.nd rfl (.inl rfl))) (fun _ _ _ _ _ => (pts_one (pt_cmpR (show OpR _ (compareOp .NotIn) (rIn K true) from op_notIn_seq) (pv 7) (pv 5) (by rfl)))) (fun _ _ _ _ _ => (pv 7)))
      (pss_one (ps_ret (pe_cmpR op_isN1 (pe_callG k__law_both (hr.mono (by omega)) pas0 (pa_cons (pv 1) (pa_cons (pv 2) (pa_cons (pv 6) (pa_cons (pv 3) pa_nil))))) pe_non (nomark _))))))
        pss_nil)
      (pss_cons (ps_set (i := 8) sc_law_pair_right.nd rfl (.inl rfl) (pe_callG k__law_both (hr.mono (by omega)) pas0 (pa_cons (pv 1) (pa_cons (pv 2) (pa_cons (pv 4) (pa_cons (pv 3) pa_nil))))))
      (pss_cons (ps_if (PW.pt (pw_or (pt_cmpR op_isN1 (pv 8) pe_non (nomark _)) (pw_or1 (pt_cmpR op_ne (pe_cmpR (op_eqD hr.rm.units) (pv 4) (pe_lst pa_nil) (nomark _)) (pe_cmpR op_notN1 (pe_callG k__law_both (hr.mono (by omega)) pas0 (pa_cons (pv 1) (pa_cons (pv 2) (pa_cons (pe_lst pa_nil) (pa_cons (pv 3) pa_nil))))) pe_non (nomark _)) (nomark _))))) (pss_one (ps_ret pe_bl))
        pss_nil)
      (pss_cons (ps_set (i := 9) sc_law_pair_right.nd rfl (.inr rfl) (pe_callG k_lines_left (hr.mono (by omega)) pas0 (pa_cons (pv 1) (pa_cons (pv 4) pa_nil))))
      (pss_cons (ps_set (i := 10) sc_law_pair_right.nd rfl (.inr rfl) (pe_callG k_view (hr.mono (by omega)) pas0 (pa_cons (pe_callG k_folded_outline (hr.mono (by omega)) pas0 (pa_cons (pv 1) (pa_cons (pv 4) pa_nil))) (pa_cons (pv 2) (pa_cons (pe_ix ix_tup (pv 8) (pe_callG k__law_draw (hr.mono (by omega)) pas0 (pa_cons (pv 0) (pa_cons pe_int pa_nil))) (fun _ _ => rfl)) pa_nil)))))
      (pss_cons (ps_if (pt_cmpR (op_neD hr.rm.units) (pe_lc (own := [("spot", 7)]) (g := gName 7) (by rfl) sc_law_pair_right.nd (pi_tup (pv 3)) (blkOk_by (own := [("spot", 7)]) (N := ["bag", "depths", "tall", "pair", "marks", "after", "able", "spot", "both", "left", "rows", "one"]) (sc := defScope s_law_pair_right) (by decide +kernel)) (fun _ _ _ _ _ => (pg_name (i := 7) sc_law_pair_right.nd rfl (.inl rfl))) (fun _ _ _ _ _ => (pts_one (pt_cmpR (show OpR _ (compareOp .NotIn) (rIn K true) from op_notIn_seq) (show PE _ _ (tBM K _ _ _ _) from (pe_bm PySem.F.plainAttrs_list PySem.F.slot_list_index PySem.F.type_list_index (show MtR _ "list.index" (rIndex K) from mt_index) (pv 9) (pa_cons (pv 7) pa_nil))) (pv 10) (by rfl)))) (fun _ _ _ _ _ => (pv 7))) (pe_lst pa_nil) (nomark _)) (pss_one (ps_ret pe_bl))
        pss_nil)
      (pss_cons (ps_for PassesOwn.never rfl (pi_list (pe_slice sl_list (pv 4) po_none (po_some pe_int))) (pg_name (i := 7) sc_law_pair_right.nd rfl (.inr rfl))
        (pss_one (ps_if (pt_cmpR op_notN1 (pe_callG k__law_both (hr.mono (by omega)) pas0 (pa_cons (pv 1) (pa_cons (pv 2) (pa_cons (pe_lc (own := [("one", 11)]) (g := gName 11) (by rfl) sc_law_pair_right.nd (pi_list (pv 4)) (blkOk_by (own := [("one", 11)]) (N := ["bag", "depths", "tall", "pair", "marks", "after", "able", "spot", "both", "left", "rows", "one"]) (sc := defScope s_law_pair_right) (by decide +kernel)) (fun _ _ _ _ _ => (pg_name (i := 11) sc_law_pair_right.nd rfl (.inl rfl))) (fun _ _ _ _ _ => (pts_one (pt_cmpR op_ne (pv 11) (pv 7) (nomark _)))) (fun _ _ _ _ _ => (pv 11))) (pa_cons (pv 3) pa_nil))))) pe_non (nomark _)) (pss_one (ps_ret pe_bl))
        pss_nil)))
      (pss_one (ps_ret pe_bl)))))))))), ?_⟩
  rw [show L2.start ["bag", "depths", "tall", "pair", "marks", "after", "able", "spot", "both", "left", "rows", "one"] [.ref a, .ref b, .int h, .ref c] = [some (.ref a), some (.ref b), some (.int h), some (.ref c), none, none, none, none, none, none, none, none] from rfl]
  refine Tr.of ?_ l
  obtain ⟨R_hm, P_hm⟩ := Pick.of_mem hm
  obtain ⟨R_hc, P_hc⟩ := Pick.of_mem hc
  repeat walk_at "hz"
  have hl := ho.len
  have hmx : max u v < ns.length := by omega
  obtain ⟨Rc, hpc⟩ := Pick.of_mem hc
  refine use_folds_to_show (by simp [hm]) ho h3 h4 u0.1 u0.2 v0.1 v0.2 fun w' N hw => ?_
  cases hw with
  | no f =>
    repeat walk_at "hz"
    refine t_maxT2 (by walk_at "pk") ?_
    repeat walk_at "hz"
    refine use_law_above (by simp [hm]) ho (by omega) hmx fun p hs2 hh hsl => ?_
    repeat walk_at "hz"
    refine t_minT2 (by walk_at "pk") ?_
    repeat walk_at "hz"
    refine t_maxT2 (by walk_at "pk") ?_
    repeat walk_at "hz"
    refine t_lcFil wk_range (by rfl) (fun i => (fun t => !decide (t ∈ hs2)) (min u v + (i : Nat))) (fun i => .int (min u v + (i : Nat))) (fun _ => trivial) ?_ ?_
    · rintro D i x L' hi ⟨rfl, rfl⟩
      rw [List.nil_append]
      repeat walk_at "hz"
      refine t_iteND (fun h => ?_) fun h => ?_
      · repeat walk_at "hz"
        exact t_lcFlA (n := 400) (by omega) (by decide) (by show (!decide (min u v + (i : Int) ∈ hs2)) = true; rw [decide_eq_false h]; rfl) rfl (by walk_at "pk") (by walk_at "sb")
      · repeat walk_at "hz"
        exact t_lcFlS (by show (!decide (min u v + (i : Int) ∈ hs2)) = false; rw [decide_eq_true h]; rfl) (by walk_at "pk") (by walk_at "sb")
    intro D
    rw [fl_ints _ (fun i : Nat => min u v + (i : Int)), fl_rg2 (min u v) (max u v) (fun t => !decide (t ∈ hs2))]
    have fok : FoldsOk ns.length ((rgI (min u v) (max u v)).filter fun t => !decide (t ∈ hs2)) := ⟨(rgI_asc _ _).filter _, fun m hm => by have := rg_in.mp (List.mem_filter.mp hm).1; omega⟩
    generalize (rgI (min u v) (max u v)).filter (fun t => !decide (t ∈ hs2)) = ab at fok ⊢
    repeat walk_at "hz"
    refine use_law_both (by simp [hm]) (by walk_at "mb") (by simp [hc]) ho fok h3 h4 u0 v0 fun w1 N1 hw1 => ?_
    rcases hw1 with ⟨g, -⟩ | ⟨-, rfl, rfl⟩
    · obtain ⟨ms, e, -⟩ := f.best hmx g.ends.1 g.ends.2 g.2.2
      cases e
    · repeat walk_at "hz"
      exact (q o (hs.le (by omega))).sub (by walk_at "sb")
  | yes f =>
    rename_i pm ms N
    have good := f.good hmx
    have shn := good.shn
    have fok : FoldsOk ns.length ms := ⟨good.asc, fun m hm => by have := good.rg m hm; omega⟩
    have ml := fok.len
    simp only [List.cons_append]
    repeat walk_at "hz"
    refine use_law_both (by simp [hm]) (by walk_at "mb") (by simp [hc]) ho fok h3 h4 u0 v0 fun w1 N1 hw1 => ?_
    rcases hw1 with ⟨-, pb, rfl, rfl⟩ | ⟨g, rfl, rfl⟩
    · repeat walk_at "hz"
      simp only [List.cons_append, List.nil_append]
      obtain ⟨lo, hlo⟩ : ∃ lo, lo = max 0 (max (keptN (atD ns) ms 0 u) (keptN (atD ns) ms 0 v) - h + 1) := ⟨_, rfl⟩
      obtain ⟨hi', hhi⟩ : ∃ hi', hi' = min (keptN (atD ns) ms 0 u) (keptN (atD ns) ms 0 v) - atD ns (min u v) := ⟨_, rfl⟩
      rw [← hlo, ← hhi]
      have key : ms = [] ↔ Shn ns [] h u v := by
        constructor
        · rintro rfl; exact shn
        · intro g
          obtain ⟨ms', e, l⟩ := f.best hmx g.ends.1 g.ends.2 g.2.2
          obtain rfl := Option.some.inj e
          exact List.length_eq_zero_iff.mp (Nat.le_zero.mp l)
      refine t_eqInts (ys := []) (by walk_at "mb") (by walk_at "mb") ?_
      repeat walk_at "hz"
      refine' t_join0 ((pb, .tup [.int lo, .int hi']) :: (pm, .lst (ms.map V.int)) :: (N ++ (a, o) :: L)) (fun join => ?k) ?main
      case k =>
        refine use_law_both (ms := []) (by simp [hm]) (by walk_at "mb") (by simp [hc]) ho ⟨.nil, fun _ h => nomatch h⟩ h3 h4 u0 v0 fun w2 N2 hw2 => ?_
        rcases hw2 with ⟨g, p2, rfl, rfl⟩ | ⟨g, rfl, rfl⟩
        · have e := key.mpr g
          subst e
          rw [show decide (([] : List Int) = []) = true from rfl]
          repeat walk_at "hz"
          exact join _ (by walk_at "sb")
        · have e : ¬ ms = [] := fun e => g (key.mp e)
          rw [decide_eq_false e]
          repeat walk_at "hz"
          exact join _ (by walk_at "sb")
      case main =>
        have m0 : ∀ m ∈ ms, 0 ≤ m := fun m hm => (fok.rg m hm).1
        have oF := left_outline ho (M := ms) m0
        obtain ⟨a1, a2, a3, a4⟩ := left_at u0.1 u0.2 shn.1
        obtain ⟨b1, b2, b3, b4⟩ := left_at v0.1 v0.2 shn.2.1
        obtain ⟨s1, s2⟩ := shn_iff ho u0 v0 shn.1 shn.2.1 oF (h := h)
        have s3 := s1.mpr shn
        rw [s2, ← hlo, ← hhi] at s3
        refine use_lines_left (by simp [hm]) (by walk_at "mb") ho fok fun pl => ?_
        repeat walk_at "hz"
        refine use_folded_outline (by simp [hm]) (by simp) ho fok fun pf => ?_
        repeat walk_at "hz"
        refine use_law_draw (by walk_at "pk") hs (by omega) (by omega) (by omega) fun d o_d dl dh hs => ?_
        repeat walk_at "hz"
        obtain ⟨sv, hsv, smem⟩ : ∃ sv, atI [V.int lo, V.int hi'] d = some (.int sv) ∧ lo ≤ sv ∧ sv ≤ hi' := by
          obtain ⟨n, h1, h2, -⟩ := at_mem (ns := [lo, hi']) dl (by simpa using dh)
          refine ⟨n, h1, ?_⟩
          simp only [List.mem_cons, List.not_mem_nil, or_false] at h2
          omega
        refine t_ixT (by walk_at "pk") hsv ?_
        have hlast : sv ≤ (((leftU (atD ns) ms ns.length).map (atD ns)).length : Int) - 1 - lastD (-1) ((leftU (atD ns) ms ns.length).map (atD ns)) := by
          have lp := oF.len
          have mo := oF.mono (i := min (keptN (atD ns) ms 0 u) (keptN (atD ns) ms 0 v)) (j := (((leftU (atD ns) ms ns.length).map (atD ns)).length : Int) - 1) (by omega) (by rw [List.length_map]; omega) (by omega)
          rw [atD_last lp.1, s2] at mo
          omega
        repeat walk_at "hz"
        refine use_view (by walk_at "mb") oF h3 h4 (by omega) hlast fun tp rw' htp => ?_
        have has : ∀ i : Int, 0 ≤ i → i < ((leftU (atD ns) ms ns.length).map (atD ns)).length → min (keptN (atD ns) ms 0 u) (keptN (atD ns) ms 0 v) ≤ i → i ≤ max (keptN (atD ns) ms 0 u) (keptN (atD ns) ms 0 v) → i ∈ vwI ((leftU (atD ns) ms ns.length).map (atD ns)) h sv tp := fun i i0 i1 l1 l2 => by
          refine vwI_has oF htp (by omega) i1 i0 ?_ (by omega)
          have mo := oF.mono (i := min (keptN (atD ns) ms 0 u) (keptN (atD ns) ms 0 v)) (j := i) (by omega) l1 i1
          rw [s2] at mo
          omega
        have hasu := has _ a1 (by rw [List.length_map]; exact a2) (by omega) (by omega)
        have hasv := has _ b1 (by rw [List.length_map]; exact b2) (by omega) (by omega)
        have mu : u ∈ leftU (atD ns) ms ns.length := leftU_has u0.1 u0.2 shn.1
        have mv : v ∈ leftU (atD ns) ms ns.length := leftU_has v0.1 v0.2 shn.2.1
        obtain ⟨vw, hvw⟩ : ∃ vw, vw = vwI ((leftU (atD ns) ms ns.length).map (atD ns)) h sv tp := ⟨_, rfl⟩
        rw [← hvw] at hasu hasv ⊢
        repeat walk_at "hz"
        refine t_lcFil (wk_tup (xs := [V.int u, V.int v])) (by rfl) (fun _ => false) (fun _ => .int 0) (fun x => ⟨_, (by walk_at "pk")⟩) ?_ ?_
        · rintro D i x L' hi ⟨hv, rfl⟩
          have ex : ∃ z, x = V.int z ∧ z ∈ leftU (atD ns) ms ns.length ∧ keptN (atD ns) ms 0 z ∈ vw ∧ (0 ≤ z ∧ z < ns.length) ∧ ¬ Hid (atD ns) ms z := by
            match i, hi with
            | 0, _ => exact ⟨u, (Option.some.inj hv).symm, mu, hasu, u0, shn.1⟩
            | 1, _ => exact ⟨v, (Option.some.inj hv).symm, mv, hasv, v0, shn.2.1⟩
          obtain ⟨z, rfl, mz, hz2, zr, zn⟩ := ex
          rw [List.nil_append]
          repeat walk_at "hz"
          refine t_indexI (by walk_at "pk") mz fun j hj => ?_
          have ij := leftU_idx zr.1 zr.2 zn hj
          rw [← ij] at hz2
          repeat walk_at "hz"
          exact t_lcFlS rfl (by walk_at "pk") (by walk_at "sb")
        intro D
        rw [fl_ints _ (fun _ => (0 : Int)), fl_nil.mpr fun i _ => rfl]
        repeat walk_at "hz"
        refine t_neInts (xs := []) (ys := []) (by walk_at "mb") (by walk_at "mb") ?_
        repeat walk_at "hz"
        rw [cutI_upto (by decide)]
        rename_i p12
        refine t_forK (wk_list (xs := (ms.take (12 : Int).toNat).map V.int)) (fun y ((j5, j6, j7, j11) : Option V × Option V × Option V × Option V) => [some (.ref a), some (.ref b), some (.int h), some (.ref c), some (.ref pm), j5, j6, j7, some (.ref pb), some (.ref pl), some (.ref rw'), j11]) (fun y ((j5, j6, j7, j11) : Option V × Option V × Option V × Option V) => (p12, .lst ((ms.take (12 : Int).toNat).map V.int)) :: (rw', .lst (vw.map V.int)) :: (a, o_d) :: (pf, .lst (((leftU (atD ns) ms ns.length).map (atD ns)).map V.int)) :: (pl, .lst ((leftU (atD ns) ms ns.length).map V.int)) :: (pb, .tup [.int lo, .int hi']) :: (pm, .lst (ms.map V.int)) :: (N ++ L)) (fun y ((j5, j6, j7, j11) : Option V × Option V × Option V × Option V) => True) ⟨(_, _, _, _), trivial, rfl, (by walk_at "sb")⟩ (fun _ _ _ => ⟨_, (by walk_at "pk")⟩) ?_ ?_
        · rintro y ⟨j5, j6, j7, j11⟩ v L' hy - ⟨hv, rfl⟩
          try dsimp only at  ⊢
          simp only [List.nil_append, List.cons_append]
          obtain ⟨sp, hsp, rfl⟩ := map_get hv
          have spm : sp ∈ ms := List.mem_of_mem_take (List.mem_of_getElem? hsp)
          repeat walk_at "hz"
          refine t_lcFil (wk_list (xs := ms.map V.int)) (by rfl) (fun i => (fun z => !decide (z = sp)) (ms.getD i default)) (fun i => .int (ms.getD i default)) (fun x => ⟨_, (by walk_at "pk")⟩) ?_ ?_
          · rintro D2 i x L' hi ⟨hv, rfl⟩
            obtain ⟨z, hz2, rfl⟩ := map_get hv
            have gz := getD_of hz2
            rw [List.length_map] at hi
            rw [List.nil_append]
            repeat walk_at "hz"
            refine t_iteND (fun k => ?_) fun k => ?_
            · repeat walk_at "hz"
              exact t_lcFlA (n := 300) (by omega) (by decide) (by show (!decide (ms.getD i default = sp)) = true; rw [gz, decide_eq_false k]; rfl) (by rw [gz]) (by walk_at "pk") (by walk_at "sb")
            · repeat walk_at "hz"
              exact t_lcFlS (by show (!decide (ms.getD i default = sp)) = false; rw [gz, decide_eq_true k]; rfl) (by walk_at "pk") (by walk_at "sb")
          intro D2
          rw [fl_ints _ (fun i => ms.getD i default), List.length_map, fl_getE ms (fun z => !decide (z = sp))]
          have fok2 : FoldsOk ns.length (ms.filter fun z => !decide (z = sp)) := ⟨good.asc.filter _, fun m hm => fok.rg m (List.mem_filter.mp hm).1⟩
          have lt : (ms.filter fun z => !decide (z = sp)).length < ms.length := by
            refine Nat.lt_of_le_of_ne (List.length_filter_le _ _) fun e => ?_
            have e2 := (List.filter_sublist (p := fun z => !decide (z = sp)) (l := ms)).eq_of_length e
            rw [← e2] at spm
            have := (List.mem_filter.mp spm).2
            simp at this
          repeat walk_at "hz"
          refine use_law_both (by simp [hm]) (by walk_at "mb") (by simp [hc]) ho fok2 h3 h4 u0 v0 fun w3 N3 hw3 => ?_
          rcases hw3 with ⟨g, -⟩ | ⟨-, rfl, rfl⟩
          · obtain ⟨ms', e, l⟩ := f.best hmx g.ends.1 g.ends.2 g.2.2
            obtain rfl := Option.some.inj e
            omega
          · repeat walk_at "hz"
            refine t_pst (_, _, _, _) trivial rfl (by walk_at "sb")
        · rintro ⟨j5, j6, j7, j11⟩ -
          try dsimp only at  ⊢
          repeat walk_at "hz"
          exact (q o_d hs).sub (by walk_at "sb")
    · exact absurd shn g
def sp_law_right (K : PySem.W.Frag) : Sp := fun vs H Q _ => ∃ (z a : Addr) (zs : List Int) (o : HO) (L : Lg), vs = [.ref z, .ref a] ∧ Led H ((a, o) :: L) ∧ (Scr K L z zs) ∧ (Bag 0 o) ∧ Tr (L) (fun H => Q (.bl true) H)
theorem use_law_right {L0  L : Lg} {Q : VK} {E : XK} {z a : Addr} {zs : List Int} {o : HO} (hp0 : Pick (a) (o) L0 L) (hS : Scr K L z zs) (hs : Bag 0 o) (q : Tr (L) (fun H => Q (.bl true) H)) : Tr L0 fun H => sp_law_right K [.ref z, .ref a] H Q E :=
  fun H l => ⟨z, a, zs, o, L, rfl, l.pick hp0, hS, hs, q⟩

theorem ok_law_right (D : Df K mg "_law_right" s_law_right) (B : Blt mg) (k__law_draw : Ok P w K mg base CX0 1 "_law_draw" ["bag", "many"] sp_law_draw) (k__law_sized : Ok P w K mg base CX0 3 "_law_sized" ["script", "bag", "small", "great"] (sp_law_sized K)) (k__law_pair_right : Ok P w K mg base CX0 7 "_law_pair_right" ["bag", "depths", "tall", "pair"] sp_law_pair_right) : Ok P w K mg base CX0 8 "_law_right" ["script", "bag"] (sp_law_right K) := by
  obtain ⟨f, fd, hm, F⟩ := D
  refine ⟨f, fd, hm, F.kp, F.binds (fun _ _ _ _ _ _ us hl => match us, hl with | [_, _], _ => rfl), FunOkG F sc_law_right (fun vs H Q E h => ?_) (fun cdv A outer s H vs Q E hr h => ?_), F.lk⟩
  · obtain ⟨_, _, _, _, _, rfl, _⟩ := h; rfl
  obtain ⟨z, a, zs, o, L, rfl, l, hS, hs, q⟩ := h
  refine ⟨_, PSs.nox (pss_cons (ps_set (i := 2) sc_law_right.nd rfl (.inl rfl) (pe_callG k__law_sized (hr.mono (by omega)) pas0 (pa_cons (pv 0) (pa_cons (pv 1) (pa_cons pe_int (pa_cons pe_int pa_nil))))))
      (pss_cons (ps_for PassesOwn.never rfl (pi_range1 rfl B.range_ (pa_cons pe_int pa_nil)) (pg_name (i := 3) sc_law_right.nd rfl (.inl rfl))
        (pss_cons (ps_set (i := 4) sc_law_right.nd rfl (.inl rfl) (pe_tup (pa_cons (pe_callG k__law_draw (hr.mono (by omega)) pas0 (pa_cons (pv 1) (pa_cons (pe_callB c_len rfl B.len_ boot_len (pa_cons (pv 2) pa_nil)) pa_nil))) (pa_cons (pe_callG k__law_draw (hr.mono (by omega)) pas0 (pa_cons (pv 1) (pa_cons (pe_callB c_len rfl B.len_ boot_len (pa_cons (pv 2) pa_nil)) pa_nil))) pa_nil))))
      (pss_cons (ps_set (i := 5) sc_law_right.nd rfl (.inl rfl) (pe_op op_add pe_int (pe_callG k__law_draw (hr.mono (by omega)) pas0 (pa_cons (pv 1) (pa_cons (pe_ix ix_list (pe_lst (pa_cons pe_int (pa_cons (pe_callB c_len rfl B.len_ boot_len (pa_cons (pv 2) pa_nil)) (pa_cons pe_int pa_nil)))) (pe_callG k__law_draw (hr.mono (by omega)) pas0 (pa_cons (pv 1) (pa_cons pe_int pa_nil))) (fun _ _ => rfl)) pa_nil)))))
      (pss_one (ps_if (pt_not (pt_val (pe_callG k__law_pair_right (hr.mono (by omega)) pas0 (pa_cons (pv 1) (pa_cons (pv 2) (pa_cons (pv 5) (pa_cons (pv 4) pa_nil))))))) (pss_one (ps_ret pe_bl))
        pss_nil)))))
      (pss_one (ps_ret pe_bl)))), ?_⟩
  rw [show L2.start ["script", "bag", "depths", "turn", "pair", "tall"] [.ref z, .ref a] = [some (.ref z), some (.ref a), none, none, none, none] from rfl]
  refine Tr.of ?_ l
  repeat walk_at "hz"
  refine use_law_sized (by walk_at "pk") hS hs (by omega) (by omega) (by omega) (by omega) fun ns p o1 ho hn hs => ?_
  have hl := ho.len
  repeat walk_at "hz"
  refine t_forK wk_range (fun t ((o, j3, j4, j5) : HO × Option V × Option V × Option V) => [some (.ref z), some (.ref a), some (.ref p), j3, j4, j5]) (fun t ((o, j3, j4, j5) : HO × Option V × Option V × Option V) => (a, o) :: (p, .lst (ns.map V.int)) :: L) (fun t ((o, j3, j4, j5) : HO × Option V × Option V × Option V) => Bag (2000 + 5 * t) o) ⟨(o1, _, _, _), (hs.le (by omega)), rfl, (by walk_at "sb")⟩ (fun _ _ _ => trivial) ?_ ?_
  · clear hs
    rintro t ⟨o, j3, j4, j5⟩ v L' ht hs ⟨rfl, rfl⟩
    try dsimp only at hs ⊢
    simp only [List.nil_append, List.cons_append]
    repeat walk_at "hz"
    refine use_law_draw (by walk_at "pk") hs (by omega) (by omega) (by omega) fun ua o_ua ual uah hs => ?_
    repeat walk_at "hz"
    refine use_law_draw (by walk_at "pk") hs (by omega) (by omega) (by omega) fun ub o_ub ubl ubh hs => ?_
    repeat walk_at "hz"
    refine use_law_draw (by walk_at "pk") hs (by omega) (by omega) (by omega) fun e o_e el eh hs => ?_
    repeat walk_at "hz"
    obtain ⟨nl, hnl⟩ : ∃ nl : Int, nl = ns.length := ⟨_, rfl⟩
    rw [← hnl]
    obtain ⟨dd, dd_at, dd_mem, -⟩ := at_mem (ns := [4, nl, 400]) el (by simpa using eh)
    have ddb : 1 ≤ dd ∧ dd ≤ 400 := by
      simp only [List.mem_cons, List.not_mem_nil, or_false] at dd_mem
      omega
    refine t_ixL (by walk_at "pk") dd_at ?_
    repeat walk_at "hz"
    refine use_law_draw (by walk_at "pk") hs (by omega) (by omega) (by omega) fun th o_th thl thh hs => ?_
    repeat walk_at "hz"
    refine use_law_pair_right (by walk_at "pk") (by walk_at "mb") (by walk_at "mb") ho (by omega) (by omega) ⟨ual, uah⟩ ⟨ubl, ubh⟩ hs (by omega) fun o' hs => ?_
    repeat walk_at "hz"
    refine t_pst (o', _, _, _) (hs.le (by omega)) rfl (by walk_at "sb")
  · rintro ⟨o, j3, j4, j5⟩ hs
    try dsimp only at hs ⊢
    repeat walk_at "hz"
    exact q.sub (by walk_at "sb")
def sp_law (K : PySem.W.Frag) : Sp := fun vs H Q _ => ∃ (a : Addr) (ns : List Int) (L : Lg), vs = [.ref a] ∧ Led H (L) ∧ (Scr K L a ns) ∧ (ns.length ≤ 63) ∧ Tr (L) (fun H => Q (.bl true) H)
theorem use_law {L : Lg} {Q : VK} {E : XK} {a : Addr} {ns : List Int} (hS : Scr K L a ns) (hl : ns.length ≤ 63) (q : Tr (L) (fun H => Q (.bl true) H)) : Tr L fun H => sp_law K [.ref a] H Q E :=
  fun H l => ⟨a, ns, L, rfl, l, hS, hl, q⟩

theorem ok_law (D : Df K mg "law" s_law) (B : Blt mg) (k__law_bag : Ok P w K mg base CX0 1 "_law_bag" ["cell", "turn"] sp_law_bag) (k__law_cells : Ok P w K mg base CX0 1 "_law_cells" ["script"] (sp_law_cells K)) (k__law_right : Ok P w K mg base CX0 8 "_law_right" ["script", "bag"] (sp_law_right K)) : Ok P w K mg base CX0 9 "law" ["script"] (sp_law K) := by
  obtain ⟨f, fd, hm, F⟩ := D
  refine ⟨f, fd, hm, F.kp, F.binds (fun _ _ _ _ _ _ us hl => match us, hl with | [_], _ => rfl), FunOkG F sc_law (fun vs H Q E h => ?_) (fun cdv A outer s H vs Q E hr h => ?_), F.lk⟩
  · obtain ⟨_, _, _, rfl, _⟩ := h; rfl
  obtain ⟨a, ns, L, rfl, l, hS, hl, q⟩ := h
  refine ⟨_, PSs.nox (pss_cons (ps_for PassesOwn.never rfl (pi_enum (by rfl) B.enumerate_ (pa_cons (pe_slice sl_list (pe_callG k__law_cells (hr.mono (by omega)) pas0 (pa_cons (pv 0) pa_nil)) po_none (po_some pe_int)) pa_nil)) (pg_tup rfl (pgs_cons (pg_name (i := 1) sc_law.nd rfl (.inl rfl)) (pgs_cons (pg_name (i := 2) sc_law.nd rfl (.inl rfl)) pgs_nil)))
        (pss_one (ps_if (pt_not (pt_val (pe_callG k__law_right (hr.mono (by omega)) pas0 (pa_cons (pv 0) (pa_cons (pe_callG k__law_bag (hr.mono (by omega)) pas0 (pa_cons (pv 2) (pa_cons (pv 1) pa_nil))) pa_nil))))) (pss_one (ps_ret pe_bl))
        pss_nil)))
      (pss_one (ps_ret pe_bl))), ?_⟩
  rw [show L2.start ["script", "k", "cell"] [.ref a] = [some (.ref a), none, none] from rfl]
  refine Tr.of ?_ l
  repeat walk_at "hz"
  refine use_law_cells hS hl fun p cs hc => ?_
  repeat walk_at "hz"
  rw [cutI_upto (by decide)]
  have hc5 : (cs.take (6 : Int).toNat).length ≤ 8 := by rw [List.length_take]; omega
  generalize cs.take (6 : Int).toNat = cs5 at hc5 ⊢
  rename_i p5
  refine t_forK (wk_enum (xs := cs5.map V.int)) (fun t ((j1, j2) : Option V × Option V) => [some (.ref a), j1, j2]) (fun t ((j1, j2) : Option V × Option V) => (p5, .lst (cs5.map V.int)) :: L) (fun t ((j1, j2) : Option V × Option V) => True) ⟨(_, _), trivial, rfl, (by walk_at "sb")⟩ (fun _ _ _ => ⟨_, (by walk_at "pk")⟩) ?_ ?_
  · rintro t ⟨j1, j2⟩ v L' ht - ⟨T, x, rfl, hx, rfl⟩
    try dsimp only at  ⊢
    simp only [List.nil_append, List.cons_append]
    obtain ⟨cell, hc1, rfl⟩ := map_get hx
    rw [List.length_map] at ht
    repeat walk_at "hz"
    refine use_law_bag (by omega) (by omega) fun p2 o hs => ?_
    repeat walk_at "hz"
    refine use_law_right (by walk_at "pk") hS.cons.cons hs ?_
    repeat walk_at "hz"
    refine t_pst (_, _) trivial rfl (by walk_at "sb")
  · rintro ⟨j1, j2⟩ -
    try dsimp only at  ⊢
    repeat walk_at "hz"
    exact q.sub (by walk_at "sb")
theorem law_ok (B : Blt mg) (g_MAX_LINES : GV mg "MAX_LINES" (.int 200)) (g_MOST_ROWS : GV mg "MOST_ROWS" (.int 400)) (d__law_bag : Df K mg "_law_bag" s_law_bag) (d__law_cells : Df K mg "_law_cells" s_law_cells) (d__law_draw : Df K mg "_law_draw" s_law_draw) (d__law_rising : Df K mg "_law_rising" s_law_rising) (d__law_sized : Df K mg "_law_sized" s_law_sized) (d_headings_of : Df K mg "headings_of" s_headings_of) (d_top_of : Df K mg "top_of" s_top_of) (d_view_of : Df K mg "view_of" s_view_of) (d_is_integer : Df K mg "is_integer" s_is_integer) (d_is_outline : Df K mg "is_outline" s_is_outline) (d_check_outline : Df K mg "check_outline" s_check_outline) (d_check_height : Df K mg "check_height" s_check_height) (d_last_scroll : Df K mg "last_scroll" s_last_scroll) (d_check_scroll : Df K mg "check_scroll" s_check_scroll) (d_check_arguments : Df K mg "check_arguments" s_check_arguments) (d_view : Df K mg "view" s_view) (d_check_folds : Df K mg "check_folds" s_check_folds) (d_last_of_section : Df K mg "last_of_section" s_last_of_section) (d_left_by : Df K mg "left_by" s_left_by) (d_lines_left : Df K mg "lines_left" s_lines_left) (d_folded_outline : Df K mg "folded_outline" s_folded_outline) (d_check_line : Df K mg "check_line" s_check_line) (d_sections_between : Df K mg "sections_between" s_sections_between) (d_folds_to_show : Df K mg "folds_to_show" s_folds_to_show) (d__law_above : Df K mg "_law_above" s_law_above) (d_interval_for : Df K mg "interval_for" s_interval_for) (d_scrolls_for_both : Df K mg "scrolls_for_both" s_scrolls_for_both) (d__law_both : Df K mg "_law_both" s_law_both) (d__law_pair_right : Df K mg "_law_pair_right" s_law_pair_right) (d__law_right : Df K mg "_law_right" s_law_right) (d_law : Df K mg "law" s_law) :
    Ok P w K mg base CX0 9 "law" ["script"] (sp_law K) := by
  have k__law_bag := ok_law_bag (P := P) (w := w) (base := base) d__law_bag B
  have k__law_cells := ok_law_cells (P := P) (w := w) (base := base) d__law_cells B
  have k__law_draw := ok_law_draw (P := P) (w := w) (base := base) d__law_draw B
  have k__law_rising := ok_law_rising (P := P) (w := w) (base := base) d__law_rising B k__law_draw
  have k__law_sized := ok_law_sized (P := P) (w := w) (base := base) d__law_sized B k__law_draw k__law_rising
  have k_headings_of := ok_headings_of (P := P) (w := w) (base := base) d_headings_of B
  have k_top_of := ok_top_of (P := P) (w := w) (base := base) d_top_of B
  have k_view_of := ok_view_of (P := P) (w := w) (base := base) d_view_of B k_headings_of k_top_of
  have k_is_integer := ok_is_integer (P := P) (w := w) (base := base) d_is_integer B
  have k_is_outline := ok_is_outline (P := P) (w := w) (base := base) d_is_outline B g_MAX_LINES k_is_integer
  have k_check_outline := ok_check_outline (P := P) (w := w) (base := base) d_check_outline k_is_outline
  have k_check_height := ok_check_height (P := P) (w := w) (base := base) d_check_height B g_MOST_ROWS k_is_integer
  have k_last_scroll := ok_last_scroll (P := P) (w := w) (base := base) d_last_scroll B
  have k_check_scroll := ok_check_scroll (P := P) (w := w) (base := base) d_check_scroll B k_is_integer k_last_scroll
  have k_check_arguments := ok_check_arguments (P := P) (w := w) (base := base) d_check_arguments B k_check_outline k_check_height k_check_scroll
  have k_view := ok_view (P := P) (w := w) (base := base) d_view B k_view_of k_check_arguments
  have k_check_folds := ok_check_folds (P := P) (w := w) (base := base) d_check_folds B k_is_integer
  have k_last_of_section := ok_last_of_section (P := P) (w := w) (base := base) d_last_of_section B
  have k_left_by := ok_left_by (P := P) (w := w) (base := base) d_left_by B k_last_of_section
  have k_lines_left := ok_lines_left (P := P) (w := w) (base := base) d_lines_left B k_check_outline k_check_folds k_left_by
  have k_folded_outline := ok_folded_outline (P := P) (w := w) (base := base) d_folded_outline B k_lines_left
  have k_check_line := ok_check_line (P := P) (w := w) (base := base) d_check_line B k_is_integer
  have k_sections_between := ok_sections_between (P := P) (w := w) (base := base) d_sections_between B k_last_of_section
  have k_folds_to_show := ok_folds_to_show (P := P) (w := w) (base := base) d_folds_to_show B k_check_outline k_check_line k_check_height k_sections_between
  have k__law_above := ok_law_above (P := P) (w := w) (base := base) d__law_above B
  have k_interval_for := ok_interval_for (P := P) (w := w) (base := base) d_interval_for B
  have k_scrolls_for_both := ok_scrolls_for_both (P := P) (w := w) (base := base) d_scrolls_for_both B k_check_outline k_check_line k_check_height k_interval_for
  have k__law_both := ok_law_both (P := P) (w := w) (base := base) d__law_both B k_scrolls_for_both k_lines_left k_folded_outline
  have k__law_pair_right := ok_law_pair_right (P := P) (w := w) (base := base) d__law_pair_right B k_view k_lines_left k_folded_outline k_folds_to_show k__law_draw k__law_above k__law_both
  have k__law_right := ok_law_right (P := P) (w := w) (base := base) d__law_right B k__law_draw k__law_sized k__law_pair_right
  have k_law := ok_law (P := P) (w := w) (base := base) d_law B k__law_bag k__law_cells k__law_right
  exact k_law


end
end Hz
open PySem PySem.W PyProof.Rows
set_option maxRecDepth 100000 in
set_option maxHeartbeats 0 in
theorem PySem.Challenge.cw_stickyheads_k46_whole_folds_bring_lines_holds : PySem.Challenge.rw_stickyheads_k46_whole_folds_bring_lines.Holds := by
  w_on; o_law; k_head; (case hw => w_witness2)
  k_fill
  refine Hz.walkG (l := PySem.Challenge.rw_stickyheads_k46_whole_folds_bring_lines) (n := 63) (k := 9) (x := "script") (CX := fun _ => L2.CX0) (sp := fun w => Hz.sp_law _) rfl (by decide) rfl ⟨⟨rfl, by decide, by decide⟩, rfl⟩ (fun w h Y => PySem.W.kIn_of Y) ?F
    (fun w H a ns hl hb _ hS => by
      obtain ⟨L, l, hS⟩ := Hz.scr_start hS
      exact ⟨a, ns, L, rfl, l, hS, hl, by first | exact fun _ => rfl | exact fun _ _ => rfl⟩) (fun _ _ _ _ _ h => h)
  case F =>
    intro w mg fa h KX G hmg base _ _
    refine Hz.law_ok ⟨?_, ?_, ?_, ?_, ?_, ?_, ?_, ?_, ?_, ?_, ?_, ?_, ?_, ?_, ?_, ?_, ?_, ?_, ?_, ?_⟩ ?_ ?_ ?_ ?_ ?_ ?_ ?_ ?_ ?_ ?_ ?_ ?_ ?_ ?_ ?_ ?_ ?_ ?_ ?_ ?_ ?_ ?_ ?_ ?_ ?_ ?_ ?_ ?_ ?_ ?_ ?_ ?_ ?_
    iterate 20 (refine Hz.no_mk KX G ?_; k_is)
    · refine' Hz.gv_mk KX G ?a ?r; (case a => k_is); (case r => exact ⟨_, rfl⟩)
    · refine' Hz.gv_mk KX G ?a ?r; (case a => k_is); (case r => exact ⟨_, rfl⟩)
    iterate 31 (refine' Hz.df_mk KX G ?a ?l ?c ?k; (case a => k_is); (case l => k_is); (case c => k_is); (case k => k_is))
