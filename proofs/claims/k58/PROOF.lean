import PyProof.Rows.All
import Wide.All
import OpenK.AllK
import Wide.FinOn
import PyProof.EqAt
import PyProof.EqKinds
import PyProof.TupleCall
import PyProof.ReprRoads
import HandS.ForMost
import HandS.Exc
import HandS.TryOnly
import HandS.ExcOwn
import HandS.WordsExc
import HandS.EndBits
import HandS.Wide
import HandS.IsInst
import HandS.Flow
import HandS.Style
import HandS.RaiseMore
import HandS.Steps
import HandS.Conv
import HandS.More
import HandS.Deep
import HandS.SortInts
import HandS.SortKw
import HandS.Zip
import PyProof.ReprLen
import PySem.Challenge.RW_stickyheads_k58_named_arguments_of_readi
set_option Elab.async false
set_option linter.all false
set_option maxRecDepth 100000
set_option maxHeartbeats 4000000
set_option exponentiation.threshold 2000
/-! Hz, part A: calls of defs where it is known that no repr is under way. -/
namespace Hz
open PySem PySem.Spec PyProof.Rows L2 RZ

/-- room for k calls; no repr is under way -/
structure RoomG (k : Nat) (A : Around) : Prop where
  rm : Room k A
  gd : A.guards = some []
theorem RoomG.mono {j k : Nat} {A : Around} (r : RoomG k A) (h : j ≤ k) : RoomG j A := ⟨r.rm.mono h, r.gd⟩
theorem RoomG.deeper {k : Nat} {A : Around} (r : RoomG (k + 1) A) (env : Env) : RoomG k (A.deeper env) := ⟨r.rm.deeper env, r.gd⟩

/-- a def keeps its promise wherever no repr is under way -/
structure FnG (P : Program) (w : World) (K : PySem.W.Frag) (mg : Str → Option Value) (base : Heap) (CX : CXT) (k : Nat) (f : Addr) (fd : FuncData) (ps : List Str) (sp : Sp) : Prop where
  len : ∀ vs H Q E, sp vs H Q E → vs.length = ps.length
  run : ∀ (A : Around) (outer : List Env) (s : Shared) (H : Hp) (args : Args) (us : List Value) (vs : List V) (Q : VK) (E : XK),
    RoomG k A → Env0 P w K mg base A outer s H → BindsTo s fd args (ps.zip us) → Vals vs us → sp vs H Q E →
      codeAny (model P w) A (.call (.ref f) args) (CR CX outer P w H s Q E) s
theorem FnG.mono {P : Program} {w : World} {K : PySem.W.Frag} {mg : Str → Option Value} {base : Heap} {CX : CXT} {j k : Nat} {f : Addr} {fd : FuncData} {ps : List Str} {sp : Sp}
    (F : FnG P w K mg base CX j f fd ps sp) (h : j ≤ k) : FnG P w K mg base CX k f fd ps sp :=
  ⟨F.len, fun A o s H a us vs Q E r => F.run A o s H a us vs Q E (r.mono h)⟩

/-- by its body -/
theorem fnG_of {CX : CXT} {P : Program} {w : World} {K : PySem.W.Frag} {mg : Str → Option Value} {base : Heap} {k : Nat} {f : Addr} {name qual : Str}
    {params : Arguments} {body : List Stmt} {scope : Scope} {dV kV doc pm cdv ct oc : Value} {an od : Option Addr} {osl : Array (Option Value)} {N ps : List Str} {sp : Sp}
    (lk : K.lookup f = some ⟨oc, od, .func (PySem.W.fnOf name qual params body scope dV kV doc pm an cdv ct), osl⟩)
    (hcd : PySem.W.codeIn K cdv qual = true) (S : FnScope N ps scope) (len : ∀ vs H Q E, sp vs H Q E → vs.length = ps.length)
    (hbody : ∀ (A : Around) (outer : List Env) (s : Shared) (H : Hp) (vs : List V) (Q : VK) (E : XK),
      RoomG k (A.deeper (envOfC qual scope s.heap.objs.size f cdv)) → sp vs H Q E →
      ∃ t, PSs (cxOf CX P w K mg base N qual scope f cdv A outer s H E) body t ∧ t { nx := fun _ H' => Q .non H', rt := Q } (start N vs) H) :
    FnG P w K mg base CX (k + 1) f (PySem.W.fnOf name qual params body scope dV kV doc pm an cdv ct) ps sp := by
  refine ⟨len, fun A outer s H args us vs Q E hr e0 hb r hsp => ?_⟩
  have hl := len _ _ _ _ hsp
  have inK : K.In s.heap := e0.mod.kin.keeps fun b o e => (e0.bs b o e).1
  have lim : s.heap.NoLimit := e0.mod.nolimit.keeps fun b o e => (e0.bs b o e).1
  have kinds : ∀ y ∈ ps.zip us, scope.names.lookup y.1 = some .local ∨ (scope.names.lookup y.1 = some .cell ∧ ((cellsFrom (s.heap.objs.size + 1) scope.names []).lookup y.1).isSome = true) := by
    rintro ⟨n, v⟩ hy
    rcases S.par n (List.of_mem_zip hy).1 with q | q
    · exact .inl q
    · exact .inr ⟨q, PySem.W.cellsFrom_some _ _ _ (.inl q)⟩
  refine codeAny_call_function hr.rm.depth (inK _ _ lk) rfl S.co S.gen rfl (PySem.W.codeRec_of inK hcd) (hb _ _ _ _ ?_)
  refine wpAny_newFunctionEnv_cells S.kind kinds fun env he s1 x => ?_
  subst he
  refine ⟨lim.keeps x.toInCall.keep, codeAny_func ?_⟩
  obtain ⟨t, ht, hq⟩ := hbody A outer s H vs Q E (hr.deeper _) hsp
  have I : Inv (cxOf CX P w K mg base N qual scope f cdv A outer s H E) [] (start N vs) H s1 := inv_start S hr.rm.hd e0 hl r x
  refine wpAny_mono (ht.run [] s1 (start N vs) H _ I hq) (fun fl s' hs => ?_) fun e s' hs => hs
  cases fl with
  | ret u =>
    obtain ⟨v, σ', H', J, rv, q⟩ := hs
    exact ⟨v, H', J.os, J.bare, J.base, J.hok, rv, q⟩
  | next =>
    obtain ⟨σ', H', J, q⟩ := hs
    exact ⟨.non, H', J.os, J.bare, J.base, J.hok, rfl, q⟩
  | brk => obtain ⟨_, _, _, q⟩ := hs; exact q.elim
  | cont => obtain ⟨_, _, _, q⟩ := hs; exact q.elim

section
variable {P : Program} {w : World} {K : PySem.W.Frag} {mg : Str → Option Value} {base : Heap}
theorem FunOkG {CX : CXT} {x qual : Str} {st : Stmt} {f : Addr} {fd : FuncData} {N ps : List Str} {k : Nat} {sp : Sp} (F : Fun K x qual st f fd) (S : FnScope N ps (defScope st))
    (len : ∀ vs H Q E, sp vs H Q E → vs.length = ps.length)
    (hbody : ∀ (cdv : Value) (A : Around) (outer : List Env) (s : Shared) (H : Hp) (vs : List V) (Q : VK) (E : XK), RoomG k (A.deeper (envOfC qual (defScope st) s.heap.objs.size f cdv)) → sp vs H Q E →
      ∃ t, PSs (cxOf CX P w K mg base N qual (defScope st) f cdv A outer s H E) (defBody st) t ∧ t { nx := fun _ H' => Q .non H', rt := Q } (start N vs) H) : FnG P w K mg base CX (k + 1) f fd ps sp := by
  obtain ⟨oc, od, kV, doc, pm, an, cdv, ct, osl, rfl, lk, hcd⟩ := F.ex
  exact fnG_of lk hcd S len fun A outer s H vs Q E hr hsp => hbody cdv A outer s H vs Q E hr hsp
end

/-! ### calls -/
/-- the def's object in the fragment -/
def LK (K : PySem.W.Frag) (f : Addr) (fd : FuncData) : Prop := ∃ (oc : Value) (od : Option Addr) (osl : Array (Option Value)), K.lookup f = some ⟨oc, od, .func fd, osl⟩
theorem _root_.L2.Fun.lk {K : PySem.W.Frag} {x qual : Str} {st : Stmt} {f : Addr} {fd : FuncData} (F : Fun K x qual st f fd) : LK K f fd := by
  obtain ⟨oc, od, kV, doc, pm, an, cdv, ct, osl, rfl, lk, hcd⟩ := F.ex
  exact ⟨oc, od, osl, lk⟩
/-- a def of the module, by its name: it is there, its parameters bind, it keeps its promise -/
def Ok (P : Program) (w : World) (K : PySem.W.Frag) (mg : Str → Option Value) (base : Heap) (CX : CXT) (k : Nat) (x : Str) (ps : List Str) (sp : Sp) : Prop :=
  ∃ (f : Addr) (fd : FuncData), mg x = some (.ref f) ∧ PySem.W.keepIn K (.ref f) = true ∧ Binds K fd ps [] ∧ FnG P w K mg base CX k f fd ps sp ∧ LK K f fd
theorem Ok.mono {P : Program} {w : World} {K : PySem.W.Frag} {mg : Str → Option Value} {base : Heap} {CX : CXT} {j k : Nat} {x : Str} {ps : List Str} {sp : Sp} (F : Ok P w K mg base CX j x ps sp) (h : j ≤ k) : Ok P w K mg base CX k x ps sp := by
  obtain ⟨f, fd, a, b, c, d, e⟩ := F
  exact ⟨f, fd, a, b, c, d.mono h, e⟩
section
variable {X : Cx} {CX : CXT} {k : Nat} {f : Addr} {fd : FuncData} {ps : List Str} {sp : Sp} {E : L2.St → XK} {x : Str} {p pos : Pos} {e : Expr} {es : List Expr} {t : TA}
theorem runG {pins : List (Addr × Obj)} {σ : L2.St} {H : Hp} {s : Shared} {Q : VK} {us : List Value} {vs : List V} (F : FnG X.prog X.w X.K X.mg X.base CX k f fd ps sp) (hr : RoomG k X.A)
    (hb : Binds X.K fd ps []) (hx : PassesAt CX X σ (E σ)) (I : Inv X pins σ H s) (r : Vals vs us) (h : sp vs H Q (E σ)) :
    wpAny (model X.prog X.w) X.A (call (.ref f) us) (EP X pins σ Q) X.xe s := by
  have hl : us.length = ps.length := r.length.symm.trans (F.len _ _ _ _ h)
  have b : BindsTo s fd ⟨us, []⟩ (ps.zip us) := by
    have b := hb s us I.kIn (by rw [List.append_nil, hl])
    rw [List.append_nil] at b
    exact b
  refine wpAny_call (codeAny_mono (F.run X.A X.stack s H ⟨us, []⟩ us vs Q (E σ) hr I.env0 b r h) fun res s' hq => ?_)
  match res, hq with
  | .error e, hq => exact hx pins H s e s' I hq
  | .ok (.ret u), hq => exact I.after hq
  | .ok .next, hq => exact hq.elim
  | .ok .brk, hq => exact hq.elim
  | .ok .cont, hq => exact hq.elim
/-- f(e, ..) -/
theorem pe_callG (F : Ok X.prog X.w X.K X.mg X.base CX k x ps sp) (hr : RoomG k X.A) (hx : ∀ σ, PassesAt CX X σ (E σ)) (ha : PA X (e :: es) t) (hg : Gl X x := by rfl)
    (hdb : (x == ("__debug__" : Str)) = false := by decide) (he : starEach (e :: es) X.env = (false, eval e X.env) :: starEach es X.env := by rfl)
    (hpl : (backTo pos (starEach es X.env)).any (·.1) = false := by rfl) : PE X (.Call (.Name x p) (e :: es) [] pos) (tCallS sp E t) := by
  obtain ⟨f, fd, hm, hk, hb, F, _⟩ := F
  refine ⟨fun pins s σ H Q I h => wpAny_Call_Name_kw (ld_glob I hg hm (PySem.W.callWith_K (h₀ := X.base) I.ok.mod.kin hk ?_ he hpl) hdb)⟩
  exact thn (ha.run pos pins s σ H _ I h) fun us s1 ⟨vs, H1, I1, r, q⟩ => ⟨I1.kIn, runG F hr hb (hx σ) I1 r q⟩
/-- f() -/
theorem pe_callG0 (F : Ok X.prog X.w X.K X.mg X.base CX k x ps sp) (hr : RoomG k X.A) (hx : ∀ σ, PassesAt CX X σ (E σ)) (hg : Gl X x := by rfl)
    (hdb : (x == ("__debug__" : Str)) = false := by decide) : PE X (.Call (.Name x p) [] [] pos) (tCallS sp E tNil) := by
  obtain ⟨f, fd, hm, hk, hb, F, _⟩ := F
  exact ⟨fun pins s σ H Q I h => wpAny_Call_Name_kw (ld_glob I hg hm (PySem.W.callWith_K0 I.kIn hk (runG (us := []) F hr hb (hx σ) I .nil h)) hdb)⟩
/-- no exception leaves the callee -/
theorem pas0 {X : Cx} (σ : L2.St) : PassesAt CX0 X σ (fun _ _ _ => False) := fun _ _ _ _ _ _ h => h.elim
end

/-! ### repr -/
section
variable {X : Cx}
/-- repr(x), x data at any depth -/
def rRepr (K : PySem.W.Frag) : List V → Hp → VK → Prop := fun xs H Q => ∃ x d, xs = [x] ∧ Dp K H x d ∧ d.showable = true ∧ d.depth < 60 ∧ d.shown.length ≤ sizeLine ∧ Q (.str d.shown) H
mutual
theorem dp_noDict {K : PySem.W.Frag} {H : Hp} : ∀ {v : V} {d : PyData}, Dp K H v d → d.hasDict = false
  | _, _, .non => by simp only [PyData.hasDict]
  | _, _, .bl _ => by simp only [PyData.hasDict]
  | _, _, .int _ => by simp only [PyData.hasDict]
  | _, _, .str _ => by simp only [PyData.hasDict]
  | _, _, .lst _ h => by simp only [PyData.hasDict]; exact dpAll_noDict h
  | _, _, .tup _ h => by simp only [PyData.hasDict]; exact dpAll_noDict h
theorem dpAll_noDict {K : PySem.W.Frag} {H : Hp} : ∀ {vs : List V} {ds : List PyData}, DpAll K H vs ds → PyData.hasDictAll ds = false
  | _, _, .nil => by simp only [PyData.hasDictAll]
  | _, _, .cons h r => by simp only [PyData.hasDictAll, dp_noDict h, dpAll_noDict r, Bool.or_false]
end
theorem call_repr (gd : X.A.guards = some []) (hu : X.A.units + 64 < cLine) : CallR X (.builtin "repr") (rRepr X.K) := by
  intro pins s σ H xs us Q I r h
  obtain ⟨x, d, rfl, hd, hs, hk, hz, q⟩ := h
  obtain ⟨u, rfl, ru⟩ := vals1 r
  obtain ⟨as, rd⟩ := Dp.reads I d x u hd ru
  have nd := PyData.noDict_hsm (as := as) (dp_noDict hd)
  cases hd with
  | non =>
    cases (show u = Value.none from ru)
    exact PySem.P.repr_of_none ⟨.str _, H, I.tok _, ⟨_, rfl⟩, by simpa only [PyData.shown] using q⟩
  | bl b =>
    cases (show u = Value.bool b from ru)
    exact PySem.P.repr_of_bool ⟨.str _, H, I.tok _, ⟨_, rfl⟩, by simpa only [PyData.shown] using q⟩
  | int i =>
    obtain ⟨t, rfl⟩ := ru
    exact PySem.P.repr_of_int (by simpa [PyData.showable] using hs) ⟨.str _, H, I.tok _, ⟨_, rfl⟩, by simpa only [PyData.shown] using q⟩
  | str y =>
    obtain ⟨t, rfl⟩ := ru
    exact PySem.P.repr_of_str ⟨.str _, H, I.tok _, ⟨_, rfl⟩, by simpa only [PyData.shown] using q⟩ (by simpa only [PyData.shown] using hz)
  | lst _ _ =>
    cases (show u = Value.ref _ from ru)
    exact repr_of_reads' rd hs nd gd (by omega) (fun _ _ e => e) (fun h' u tk hk => ⟨.str _, H, I.kept hk, ⟨_, rfl⟩, q⟩) hz
  | tup _ _ =>
    cases (show u = Value.ref _ from ru)
    exact repr_of_reads' rd hs nd gd (by omega) (fun _ _ e => e) (fun h' u tk hk => ⟨.str _, H, I.kept hk, ⟨_, rfl⟩, q⟩) hz
end
/-- the law's own list: known by its object, or written -/
def ScrL (K : PySem.W.Frag) (H : Hp) (a : Addr) (xs : List V) : Prop := ∃ its : List Value, Vals xs its ∧ xs.length ≤ sizeLine ∧
  (H a = some (.frz { cls := .type "list", data := .seq its.toArray } (.lst xs)) ∨ K.lookup a = some { cls := .type "list", data := .seq its.toArray })
theorem ScrL.sq {K : PySem.W.Frag} {H : Hp} {a : Addr} {xs : List V} (h : ScrL K H a xs) : SqL K H a xs := by
  obtain ⟨its, r, z, h | h⟩ := h
  · exact .inl (.inr ⟨_, h⟩)
  · have e := r.length
    exact .inr ⟨_, its.toArray, _, h, rfl, rfl, rfl, by simp; omega, by simpa using r⟩
theorem ScrL.obj {X : Cx} {pins : List (Addr × Obj)} {σ : L2.St} {H : Hp} {s : Shared} {a : Addr} {xs : List V} (I : Inv X pins σ H s) (h : ScrL X.K H a xs) : ∃ its : List Value, Vals xs its ∧ s.heap.get? a = some { cls := .type "list", data := .seq its.toArray } := by
  obtain ⟨its, r, z, h | h⟩ := h
  · obtain ⟨e, _⟩ := I.hok a _ h
    exact ⟨its, r, e⟩
  · exact ⟨its, r, I.kIn a _ h⟩
/-- list + list, the left one the law's own -/
def rCatS (K : PySem.W.Frag) : R2 := fun x y H Q => ∃ l b xs zs, x = .ref l ∧ y = .ref b ∧ ScrL K H l xs ∧ H b = some (.lst zs) ∧ xs.length + zs.length ≤ sizeLine ∧ ∀ p, H p = none → Q (.ref p) (upd H p (.lst (xs ++ zs)))
theorem op_catS {X : Cx} : OpR X (binaryOp .Add) (rCatS X.K) := by
  intro pins s σ H x y v u Q I rx ry h
  obtain ⟨l, b, xs, zs, rfl, rfl, hS, hB, hz, q⟩ := h
  cases rx
  cases ry
  obtain ⟨its, r, e⟩ := ScrL.obj I hS
  obtain ⟨_, its2, n2, r2, hl2, e2⟩ := I.lstM hB
  have hl := r.length
  refine PySem.P.add_list e e2 ?_ (by rw [List.size_toArray, List.size_toArray]; omega)
  rw [show its.toArray ++ its2.toArray = (its ++ its2).toArray by simp]
  exact ⟨.ref _, _, I.lnew (t' := s.toks) (r.append r2) (by rw [List.length_append]; omega), rfl, q _ I.fresh⟩
end Hz

/-! Hz, the end of a law: from the promise of the law's def to the claim. -/
namespace Hz
open PySem PySem.Spec PyProof.Rows L2 RZ

/-- what is tracked at the law's entry: the script alone (by its object), or nothing -/
def entryHp (a : Addr) (o : Obj) (xs : List V) (own : Bool) : Hp := fun b => if own = true ∧ b = a then some (.frz o (.lst xs)) else none

theorem law_runs {P : Program} {w : World} {K : PySem.W.Frag} {mg mb : Str → Option Value} {CX : CXT} {k : Nat} {fa a : Addr} {name x : Str} {sp : Sp} {s₁ : Shared} {vs : List Value} {ns : List Int}
    (inK : K.In s₁.heap) (hns : s₁.heap.Ns mainGlobals mg) (hb : s₁.heap.Ns builtinsNs mb) (hbb : ∀ x : Str, x ≠ "__name__" → mb x = bootBuiltins x) (hlim : s₁.heap.NoLimit)
    (hg : s₁.gens = #[]) (ha : s₁.heap.get? a = some { cls := .type "list", data := .seq vs.toArray }) (hi : IntsAre vs ns) (hl : ns.length ≤ sizeLine) (hr : RoomG k callerA)
    (hfa : mg name = some (.ref fa)) (F : ∀ base : Heap, K.In base → base.Ns mainGlobals mg → Ok P w K mg base CX k name [x] sp)
    (hsp : ∀ H : Hp, Only H → ScrL K H a (ns.map V.int) → sp [.ref a] H (fun v _ => v = .bl true) fun _ _ _ => False) (hCX : ∀ H e s', CX [] H s₁ (fun _ _ _ => False) e s' → False) :
    codeAny (model P w) callerA (.call (.ref fa) ⟨[.ref a], []⟩) (fun r s' => r = .ok (.ret (.bool true)) ∧ OldK s₁.heap s'.heap ∧ s'.os = s₁.os ∧ AllBare s'.gens) s₁ := by
  have rv := vals_ints hi
  -- H: the abstract heap at the entry
  have main : ∀ H : Hp, Only H → ScrL K H a (ns.map V.int) → HOk P w H s₁.heap → (∀ b, H b ≠ none → b = a) → (H a ≠ none → K.lookup a = none) →
      codeAny (model P w) callerA (.call (.ref fa) ⟨[.ref a], []⟩) (fun r s' => r = .ok (.ret (.bool true)) ∧ OldK s₁.heap s'.heap ∧ s'.os = s₁.os ∧ AllBare s'.gens) s₁ := by
    intro H only sq hok onlyA apart
    have off : ∀ {b : Addr} {o : Obj}, s₁.heap.get? b = some o → (∀ w n, o.data ≠ .seq w n) → H b = none := by
      intro b o e nd
      cases q : H b with
      | none => rfl
      | some u =>
        obtain rfl := onlyA b (by rw [q]; simp)
        rw [ha] at e
        cases e
        exact absurd rfl (nd _ _)
    have ns' : ∀ {b : Addr} {m : Str → Option Value}, s₁.heap.Ns b m → (hidT s₁.heap H).Ns b m := by
      rintro b m ⟨o, es, ep, e, d, r⟩
      exact ⟨o, es, ep, hidT_get e (off e fun w n z => by rw [d] at z; cases z), d, r⟩
    have kb : K.In (hidT s₁.heap H) := by
      intro b o e
      refine hidT_get (inK b o e) ?_
      cases q : H b with
      | none => rfl
      | some u =>
        have z := onlyA b (by rw [q]; simp)
        rw [z] at q e
        have z2 := apart (by rw [q]; simp)
        rw [z2] at e
        cases e
    have md : Mod K mg (hidT s₁.heap H) := ⟨kb, ns' hns, ⟨mb, ns' hb, hbb⟩, let ⟨mc, h1, h2⟩ := hlim; ⟨mc, ns' h1, h2⟩⟩
    have noF : ∀ b, b ∉ frs [] := fun b z => by cases z
    have e0 : Env0 P w K mg (hidT s₁.heap H) callerA [] s₁ H := ⟨rfl, md, fun b o e => of_hidT e, Nat.le_of_eq (hidT_size _ _), trivial, fun b z => (noF b z).elim, hok, .of_eq hg⟩
    obtain ⟨f, fd, hf, _, hb, G, _⟩ := F _ kb (ns' hns)
    rw [hfa] at hf
    cases hf
    refine codeAny_mono (G.run callerA [] s₁ H ⟨[.ref a], []⟩ [.ref a] [.ref a] _ _ hr e0 (hb s₁ [.ref a] inK rfl) (.cons rfl .nil) (hsp H only sq)) fun r s' h => ?_
    match r, h with
    | .error e, h => exact (hCX H e s' h).elim
    | .ok .next, h => exact h.elim
    | .ok .brk, h => exact h.elim
    | .ok .cont, h => exact h.elim
    | .ok (.ret u), h =>
      obtain ⟨v, H', os, bare, un, hok', rv', q⟩ := h
      obtain rfl : v = .bl true := q
      obtain rfl : u = Value.bool true := rv'
      refine ⟨rfl, OldK.of_keep fun b o e => ?_, os, bare⟩
      cases q : H b with
      | none => exact un.keep b o e q (noF b) (by simp)
      | some t =>
        rcases only b with z | ⟨ob, xs, z⟩
        · rw [q] at z; cases z
        · obtain ⟨e1, _⟩ := hok b _ z
          obtain ⟨e2, _⟩ := hok' b _ (un.frzs b ob _ z)
          rw [e] at e1
          cases e1
          exact e2
  have vsz := hi.length
  cases hk : K.lookup a with
  | some o =>
    have e := inK a o hk
    rw [ha] at e
    cases e
    refine main (fun _ => none) (fun _ => .inl rfl) ⟨vs, rv, by rw [List.length_map]; exact hl, .inr hk⟩ (fun b u z => by cases (show (none : Option HO) = some u from z)) (fun b z => absurd rfl z) fun z => absurd rfl z
  | none =>
    have at_ : entryHp a { cls := .type "list", data := .seq vs.toArray } (ns.map V.int) true a = some (.frz { cls := .type "list", data := .seq vs.toArray } (.lst (ns.map V.int))) := by
      unfold entryHp; simp
    have else_ : ∀ b, b ≠ a → entryHp a { cls := .type "list", data := .seq vs.toArray } (ns.map V.int) true b = none := fun b hb => by
      unfold entryHp; simp [hb]
    refine main (entryHp a { cls := .type "list", data := .seq vs.toArray } (ns.map V.int) true) (fun b => ?_) ⟨vs, rv, by rw [List.length_map]; exact hl, .inl at_⟩ (fun b u z => ?_) (fun b z => ?_) fun _ => hk
    · by_cases hb : b = a
      · subst hb; exact .inr ⟨_, _, at_⟩
      · exact .inl (else_ b hb)
    · by_cases hb : b = a
      · subst hb
        rw [at_] at z
        cases z
        exact ⟨ha, by rw [List.length_map]; exact hl, vs, _, rv, ha⟩
      · rw [else_ b hb] at z; cases z
    · exact Decidable.byContradiction fun hb => z (else_ b hb)

/-- the claim, from the promise of the law's def; the bits of the script's ints are told -/
theorem walkG {l : PySem.W.OpenLaw} {n k : Nat} {q : Program} {loose : List Str} {XP : (Str → Option Value) → Heap → Prop} {YP : World → Heap → Prop} {d : DefRec} {K : Params → PySem.W.Frag} {CX : World → CXT} {sp : World → Sp} {x : Str}
    (hn : l.most = some n) (hn2 : n ≤ sizeLine) (hdf : d.params.defaults = []) (hr : RoomG k callerA) (hY : ∀ (w : World) (h : Heap), YP w h → (K w.params).In h)
    (F : ∀ (w : World) (mg : Str → Option Value) (fa : Addr) (h : Heap), (K w.params).In h → h.Ns mainGlobals mg → mg d.name = some (.ref fa) →
      ∀ base : Heap, (K w.params).In base → base.Ns mainGlobals mg → Ok l.prog w (K w.params) mg base (CX w) k d.name [x] (sp w))
    (hsp : ∀ (w : World) (H : Hp) (a : Addr) (ns : List Int), ns.length ≤ n → (∀ z ∈ ns, Builtin.Int.intBits z ≤ 1048576) → Only H → ScrL (K w.params) H a (ns.map V.int) → sp w [.ref a] H (fun v _ => v = .bl true) fun _ _ _ => False)
    (hCX : ∀ (w : World) (H : Hp) (s : Shared) (e : Value) (s' : Shared), CX w [] H s (fun _ _ _ => False) e s' → False) :
    PySem.W.WalkO q loose XP YP l.row.toRowW d [] (fun f vs => PySem.call f vs) := by
  refine Att.attach_callB hn hdf fun w s₀ s₁ mg mb fa o pm cd doc a vs ns G Y ho hd hcd hmg hobj hints hlen hbits hg => ?_
  have inK := hY w _ Y
  have ok := F w mg fa _ inK G.T.g hmg
  exact law_runs inK G.T.g G.T.b G.T.builtins G.T.nolimit hg hobj hints (Nat.le_trans hlen hn2) hr hmg ok (fun H hO hS => hsp w H a ns hlen hbits hO hS) fun H e s' => hCX w H s₁ e s'
end Hz

/-! Hz, part B: what is known of the heap as a ledger; readings walked from the left. -/
namespace Hz
open PySem PySem.Spec PyProof.Rows L2 RZ
abbrev SS := L2.St
abbrev Lg := List (Addr × HO)
/-- the heap holds the ledger; no address twice -/
structure Led (H : Hp) (L : Lg) : Prop where
  has : ∀ p ∈ L, H p.1 = some p.2
  nd : (L.map (·.1)).Nodup
/-- (a, o) stands in L, R is the rest -/
inductive Pick (a : Addr) (o : HO) : Lg → Lg → Prop where
  | head {R : Lg} : Pick a o ((a, o) :: R) R
  | tail {x : Addr × HO} {L R : Lg} : Pick a o L R → Pick a o (x :: L) (x :: R)
/-- M is part of L -/
inductive Sub : Lg → Lg → Prop where
  | refl {L : Lg} : Sub L L
  | drop {x : Addr × HO} {L M : Lg} : Sub L M → Sub (x :: L) M
  | take {a : Addr} {o : HO} {L R M : Lg} : Pick a o L R → Sub R M → Sub L ((a, o) :: M)
theorem Pick.perm {a : Addr} {o : HO} {L R : Lg} (h : Pick a o L R) : L.Perm ((a, o) :: R) := by
  induction h with
  | head => exact .refl _
  | tail _ ih => exact (ih.cons _).trans (.swap _ _ _)
theorem Led.perm {H : Hp} {L M : Lg} (l : Led H L) (p : L.Perm M) : Led H M :=
  ⟨fun x hx => l.has x (p.mem_iff.mpr hx), (p.map (·.1)).nodup_iff.mp l.nd⟩
theorem Led.pick {H : Hp} {a : Addr} {o : HO} {L R : Lg} (l : Led H L) (p : Pick a o L R) : Led H ((a, o) :: R) := l.perm p.perm
theorem Led.get {H : Hp} {a : Addr} {o : HO} {L R : Lg} (l : Led H L) (p : Pick a o L R) : H a = some o := (l.pick p).has (a, o) (.head _)
theorem Led.tail {H : Hp} {x : Addr × HO} {L : Lg} (l : Led H (x :: L)) : Led H L :=
  ⟨fun p hp => l.has p (.tail _ hp), (List.nodup_cons.mp l.nd).2⟩
theorem Led.put {H : Hp} {a : Addr} {o o' : HO} {R : Lg} (l : Led H ((a, o) :: R)) : Led (upd H a o') ((a, o') :: R) := by
  have n := (List.nodup_cons.mp l.nd).1
  refine ⟨fun p hp => ?_, l.nd⟩
  rcases List.mem_cons.mp hp with rfl | hp
  · exact upd_same
  · rw [upd_ne (fun e => n (List.mem_map.mpr ⟨p, hp, e⟩))]
    exact l.has p (.tail _ hp)
theorem Led.new {H : Hp} {p : Addr} {o : HO} {L : Lg} (l : Led H L) (h : H p = none) : Led (upd H p o) ((p, o) :: L) := by
  have ne : ∀ q ∈ L, q.1 ≠ p := fun q hq e => by
    have z := l.has q hq
    rw [e, h] at z
    cases z
  refine ⟨fun q hq => ?_, List.nodup_cons.mpr ⟨fun hm => ?_, l.nd⟩⟩
  · rcases List.mem_cons.mp hq with rfl | hq
    · exact upd_same
    · rw [upd_ne (ne q hq)]
      exact l.has q hq
  · obtain ⟨q, hq, e⟩ := List.mem_map.mp hm
    exact ne q hq e
theorem Led.cons {H : Hp} {a : Addr} {o : HO} {R M : Lg} (l : Led H ((a, o) :: R)) (s : ∀ x ∈ M.map (·.1), x ∈ R.map (·.1)) (m : Led H M) : Led H ((a, o) :: M) :=
  ⟨fun p hp => (List.mem_cons.mp hp).elim (fun e => by rw [e]; exact l.has _ (.head _)) (m.has p), List.nodup_cons.mpr ⟨fun h => (List.nodup_cons.mp l.nd).1 (s _ h), m.nd⟩⟩
theorem Sub.mem {L M : Lg} (s : Sub L M) : ∀ x ∈ M, x ∈ L := by
  induction s with
  | refl => exact fun _ h => h
  | drop _ ih => exact fun x h => .tail _ (ih x h)
  | take p _ ih =>
    intro x h
    rcases List.mem_cons.mp h with rfl | h
    · exact p.perm.mem_iff.mpr (.head _)
    · exact p.perm.mem_iff.mpr (.tail _ (ih x h))
theorem Led.sub {H : Hp} {L M : Lg} (l : Led H L) (s : Sub L M) : Led H M := by
  induction s with
  | refl => exact l
  | drop _ ih => exact ih l.tail
  | take p s ih =>
    refine (l.pick p).cons (fun x hx => ?_) (ih (l.pick p).tail)
    obtain ⟨q, hq, e⟩ := List.mem_map.mp hx
    exact List.mem_map.mpr ⟨q, s.mem q hq, e⟩
theorem Led.nil {H : Hp} : Led H [] := ⟨fun _ h => (nomatch h), List.nodup_nil⟩

/-- from every heap that holds L -/
def Tr (L : Lg) (G : Hp → Prop) : Prop := ∀ H, Led H L → G H
theorem Tr.of {L : Lg} {G : Hp → Prop} {H : Hp} (t : Tr L G) (l : Led H L) : G H := t H l
theorem Tr.sub {L M : Lg} {G : Hp → Prop} (t : Tr M G) (s : Sub L M) : Tr L G := fun H l => t H (l.sub s)
theorem Tr.pick {a : Addr} {o : HO} {L R : Lg} {G : Hp → Prop} (p : Pick a o L R) (t : Tr ((a, o) :: R) G) : Tr L G := fun H l => t H (l.pick p)

/-- the slot i of σ becomes x -/
inductive SetAt : SS → Nat → Option V → SS → Prop where
  | zero {x y : Option V} {r : SS} : SetAt (y :: r) 0 x (x :: r)
  | succ {i : Nat} {x y : Option V} {r r' : SS} : SetAt r i x r' → SetAt (y :: r) (i + 1) x (y :: r')
theorem SetAt.eq {σ σ' : SS} {i : Nat} {x : Option V} (h : SetAt σ i x σ') : σ.set i x = σ' := by
  induction h with
  | zero => rfl
  | succ _ ih => rw [List.set_cons_succ, ih]

/-- None -/
def isNon : V → Bool
  | .non => true
  | _ => false
theorem isNon_dec (x : V) : decide (x = .non) = isNon x := by cases x <;> first | rfl | exact decide_eq_false (fun h => nomatch h)
section
variable {L R : Lg} {σ σ' : SS} {Q : VK} {QB : Bool → Hp → Prop} {QA : List V → Hp → Prop} {G : Hp → Prop} {K : PySem.W.Frag} {ta tb tc te tl : TE} {t u : TT} {tr : TA} {v x y : V} {i : Nat} {a p : Addr} {xs : List V}
/-! ### expressions -/
theorem t_var (h : σ[i]? = some (some v)) (k : Tr L fun H => Q v H) : Tr L fun H => tVar i σ H Q := fun H l => ⟨v, h, k H l⟩
theorem t_c (k : Tr L fun H => Q v H) : Tr L fun H => tC v σ H Q := k
theorem t_op {r : R2} (k : Tr L fun H => ta σ H fun x H1 => tb σ H1 fun y H2 => r x y H2 Q) : Tr L fun H => tOp r ta tb σ H Q := k
theorem t_un {r : V → Hp → VK → Prop} (k : Tr L fun H => ta σ H fun x H1 => r x H1 Q) : Tr L fun H => tUn r ta σ H Q := k
theorem t_rI {C : Int → Int → Prop} {g : Int → Int → V} {m n : Int} (hc : C m n) (k : Tr L fun H => Q (g m n) H) : Tr L fun H => rI C g (.int m) (.int n) H Q := fun H l => ⟨m, n, rfl, rfl, hc, k H l⟩
theorem t_rI0 {g : Int → Int → V} {m n : Int} (k : Tr L fun H => Q (g m n) H) : Tr L fun H => rI0 g (.int m) (.int n) H Q := fun H l => ⟨m, n, rfl, rfl, k H l⟩
theorem t_rU {g : Int → V} {m : Int} (k : Tr L fun H => Q (g m) H) : Tr L fun H => rU g (.int m) H Q := fun H l => ⟨m, rfl, k H l⟩
theorem dec_int (m n : Int) : decide (V.int m = V.int n) = decide (m = n) := by simp
theorem dec_bl (m n : Bool) : decide (V.bl m = V.bl n) = (m == n) := by cases m <;> cases n <;> rfl
theorem dec_str (m n : Str) : decide (V.str m = V.str n) = decide (m = n) := by simp
theorem t_eqI {m n : Int} (k : Tr L fun H => Q (.bl (decide (m = n))) H) : Tr L fun H => rEq (.int m) (.int n) H Q := fun H l => ⟨rfl, by rw [dec_int]; exact k H l⟩
theorem t_eqB {m n : Bool} (k : Tr L fun H => Q (.bl (m == n)) H) : Tr L fun H => rEq (.bl m) (.bl n) H Q := fun H l => ⟨rfl, by rw [dec_bl]; exact k H l⟩
theorem t_eqS {m n : Str} (k : Tr L fun H => Q (.bl (decide (m = n))) H) : Tr L fun H => rEq (.str m) (.str n) H Q := fun H l => ⟨rfl, by rw [dec_str]; exact k H l⟩
theorem t_eq (hs : scal x y = true) (k : Tr L fun H => Q (.bl (decide (x = y))) H) : Tr L fun H => rEq x y H Q := fun H l => ⟨hs, k H l⟩
theorem t_neI {m n : Int} (k : Tr L fun H => Q (.bl (!decide (m = n))) H) : Tr L fun H => rNe (.int m) (.int n) H Q := fun H l => ⟨rfl, by rw [dec_int]; exact k H l⟩
theorem t_neB {m n : Bool} (k : Tr L fun H => Q (.bl (!(m == n))) H) : Tr L fun H => rNe (.bl m) (.bl n) H Q := fun H l => ⟨rfl, by rw [dec_bl]; exact k H l⟩
theorem t_neS {m n : Str} (k : Tr L fun H => Q (.bl (!decide (m = n))) H) : Tr L fun H => rNe (.str m) (.str n) H Q := fun H l => ⟨rfl, by rw [dec_str]; exact k H l⟩
theorem t_ne (hs : scal x y = true) (k : Tr L fun H => Q (.bl (!decide (x = y))) H) : Tr L fun H => rNe x y H Q := fun H l => ⟨hs, k H l⟩
theorem t_isN (k : Tr L fun H => Q (.bl (isNon x)) H) : Tr L fun H => rIsN x .non H Q := fun H l => ⟨rfl, by rw [isNon_dec]; exact k H l⟩
theorem t_notN (k : Tr L fun H => Q (.bl (!isNon x)) H) : Tr L fun H => rNotN x .non H Q := fun H l => ⟨rfl, by rw [isNon_dec]; exact k H l⟩
/-- a chain a < b < c -/
theorem t_chain {r r' : R2} (k : Tr L fun H => ta σ H fun x H1 => tb σ H1 fun y H2 => r x y H2 fun z H3 => ∃ k, z = .bl k ∧ (if k = true then tc σ H3 fun w' H4 => r' y w' H4 Q else Q (.bl false) H3)) : Tr L fun H => tChain r r' ta tb tc σ H Q := k
/-! ### tests -/
theorem t_test (k : Tr L fun H => te σ H fun x H1 => ∃ c, x = .bl c ∧ QB c H1) : Tr L fun H => tTest te σ H QB := k
theorem t_B (k : Tr L fun H => te σ H fun x H1 => ∃ c, x = .bl c ∧ QB c H1) : Tr L fun H => tB te σ H QB := k
theorem t_bl {b : Bool} {G : Bool → Hp → Prop} (k : Tr L fun H => G b H) : Tr L fun H => ∃ c, V.bl b = .bl c ∧ G c H := fun H l => ⟨b, rfl, k H l⟩
theorem t_and (k : Tr L fun H => t σ H fun c H1 => if c = true then u σ H1 QB else QB false H1) : Tr L fun H => tAnd t u σ H QB := k
theorem t_or (k : Tr L fun H => t σ H fun c H1 => if c = true then QB true H1 else u σ H1 QB) : Tr L fun H => tOr t u σ H QB := k
theorem t_not (k : Tr L fun H => t σ H fun c H1 => QB (!c) H1) : Tr L fun H => tNot t σ H QB := k
theorem t_andV (k : Tr L fun H => ta σ H fun x H1 => ∃ c, x = .bl c ∧ if c = true then tb σ H1 Q else Q (.bl false) H1) : Tr L fun H => tAndV ta tb σ H Q := k
theorem t_orV (k : Tr L fun H => ta σ H fun x H1 => ∃ c, x = .bl c ∧ if c = true then Q (.bl true) H1 else tb σ H1 Q) : Tr L fun H => tOrV ta tb σ H Q := k
theorem t_notV (k : Tr L fun H => ta σ H fun x H1 => ∃ c, x = .bl c ∧ Q (.bl (!c)) H1) : Tr L fun H => tNotV ta σ H Q := k
theorem t_ifE (k : Tr L fun H => t σ H fun c H1 => if c = true then ta σ H1 Q else tb σ H1 Q) : Tr L fun H => tIf t ta tb σ H Q := k
theorem t_ite {b : Bool} {G1 G2 : Hp → Prop} (h1 : b = true → Tr L G1) (h2 : b = false → Tr L G2) : Tr L fun H => if b = true then G1 H else G2 H := fun H l => by
  cases b with
  | true => rw [if_pos rfl]; exact h1 rfl H l
  | false => rw [if_neg Bool.false_ne_true]; exact h2 rfl H l
theorem t_iteD {c : Prop} [Decidable c] {G1 G2 : Hp → Prop} (h1 : c → Tr L G1) (h2 : ¬ c → Tr L G2) : Tr L fun H => if decide c = true then G1 H else G2 H :=
  t_ite (fun h => h1 (of_decide_eq_true h)) fun h => h2 (of_decide_eq_false h)
theorem t_iteND {c : Prop} [Decidable c] {G1 G2 : Hp → Prop} (h1 : ¬ c → Tr L G1) (h2 : c → Tr L G2) : Tr L fun H => if (!decide c) = true then G1 H else G2 H :=
  t_ite (fun h => h1 (by simpa using h)) fun h => h2 (by simpa using h)
theorem t_iteT {G1 G2 : Hp → Prop} (k : Tr L G1) : Tr L fun H => if true = true then G1 H else G2 H := fun H l => iteT (k H l)
theorem t_iteF {G1 G2 : Hp → Prop} (k : Tr L G2) : Tr L fun H => if false = true then G1 H else G2 H := fun H l => iteF (k H l)
theorem t_ifT {b : Bool} {G1 G2 : Hp → Prop} (h : b = true) (k : Tr L G1) : Tr L fun H => if b = true then G1 H else G2 H := t_ite (fun _ => k) fun h2 => absurd (h.symm.trans h2) (by decide)
theorem t_ifF {b : Bool} {G1 G2 : Hp → Prop} (h : b = false) (k : Tr L G2) : Tr L fun H => if b = true then G1 H else G2 H := t_ite (fun h2 => absurd (h2.symm.trans h) (by decide)) fun _ => k
/-! ### displays, arguments -/
theorem t_nil (k : Tr L fun H => QA [] H) : Tr L fun H => tNil σ H QA := k
theorem t_cons (k : Tr L fun H => ta σ H fun x H1 => tr σ H1 fun xs H2 => QA (x :: xs) H2) : Tr L fun H => tCons ta tr σ H QA := k
def newL (xs : List V) (H : Hp) (Q : VK) : Prop := xs.length ≤ sizeLine ∧ ∀ p, H p = none → Q (.ref p) (upd H p (.lst xs))
def newT (xs : List V) (H : Hp) (Q : VK) : Prop := xs.length ≤ sizeLine ∧ ∀ p, H p = none → Q (.ref p) (upd H p (.tup xs))
theorem t_lst (k : Tr L fun H => tr σ H fun xs H1 => newL xs H1 Q) : Tr L fun H => tLst tr σ H Q := k
theorem t_tup (k : Tr L fun H => tr σ H fun xs H1 => newT xs H1 Q) : Tr L fun H => tTup tr σ H Q := k
theorem t_newL (hz : xs.length ≤ sizeLine) (k : ∀ p, Tr ((p, .lst xs) :: L) fun H => Q (.ref p) H) : Tr L fun H => newL xs H Q := fun H l => ⟨hz, fun p hp => k p _ (l.new hp)⟩
theorem t_newT (hz : xs.length ≤ sizeLine) (k : ∀ p, Tr ((p, .tup xs) :: L) fun H => Q (.ref p) H) : Tr L fun H => newT xs H Q := fun H l => ⟨hz, fun p hp => k p _ (l.new hp)⟩
/-! ### calls -/
theorem t_callS {sp : Sp} {E : SS → XK} (k : Tr L fun H => tr σ H fun vs H1 => sp vs H1 Q (E σ)) : Tr L fun H => tCallS sp E tr σ H Q := k
theorem t_CB {r : List V → Hp → VK → Prop} (k : Tr L fun H => tr σ H fun vs H1 => r vs H1 Q) : Tr L fun H => tCB r tr σ H Q := k
theorem t_BM0 {T : String} {r : V → List V → Hp → VK → Prop} (k : Tr L fun H => te σ H fun x H1 => tyV K T x H1 ∧ r x [] H1 Q) : Tr L fun H => tBM0 K T r te σ H Q := k
theorem t_BM {T : String} {r : V → List V → Hp → VK → Prop} (k : Tr L fun H => te σ H fun x H1 => tyV K T x H1 ∧ tr σ H1 fun xs H2 => r x xs H2 Q) : Tr L fun H => tBM K T r te tr σ H Q := k
theorem t_tyL (hp : Pick p (.lst xs) L R) (k : Tr L G) : Tr L fun H => tyV K "list" (.ref p) H ∧ G H := fun H l => ⟨.inl ⟨rfl, xs, .inl (.inl (l.get hp))⟩, k H l⟩
theorem t_tyS {z : Str} (k : Tr L G) : Tr L fun H => tyV K "str" (.str z) H ∧ G H := fun H l => ⟨rfl, k H l⟩
theorem t_append (hp : Pick p (.lst xs) L R) (hz : xs.length < sizeLine) (k : Tr ((p, .lst (xs ++ [y])) :: R) fun H => Q .non H) : Tr L fun H => rAppend (.ref p) [y] H Q :=
  fun H l => ⟨p, xs, y, rfl, rfl, l.get hp, hz, k _ (l.pick hp).put⟩
theorem t_popM (hp : Pick p (.lst xs) L R) (hy : xs[xs.length - 1]? = some y) (k : Tr ((p, .lst xs.dropLast) :: R) fun H => Q y H) : Tr L fun H => rPop (.ref p) [] H Q :=
  fun H l => ⟨p, xs, y, rfl, rfl, l.get hp, hy, k _ (l.pick hp).put⟩
theorem t_reverse (hp : Pick p (.lst xs) L R) (k : Tr ((p, .lst xs.reverse) :: R) fun H => Q .non H) : Tr L fun H => rReverse (.ref p) [] H Q :=
  fun H l => ⟨p, xs, rfl, rfl, l.get hp, k _ (l.pick hp).put⟩
theorem t_clear (hp : Pick p (.lst xs) L R) (k : Tr ((p, .lst []) :: R) fun H => Q .non H) : Tr L fun H => rClear (.ref p) [] H Q :=
  fun H l => ⟨p, xs, rfl, rfl, l.get hp, k _ (l.pick hp).put⟩
/-! ### subscripts, slices -/
theorem sqL (hp : Pick p (.lst xs) L R) {H : Hp} (l : Led H L) : SqL K H p xs := .inl (.inl (l.get hp))
theorem sqT (hp : Pick p (.tup xs) L R) {H : Hp} (l : Led H L) : SqT K H p xs := .inl (.inl (l.get hp))
theorem t_ixL {m : Int} (hp : Pick p (.lst xs) L R) (ha : atI xs m = some v) (k : Tr L fun H => Q v H) : Tr L fun H => rIxL K (.ref p) (.int m) H Q := fun H l => ⟨p, xs, m, v, rfl, rfl, sqL hp l, ha, k H l⟩
theorem t_ixT {m : Int} (hp : Pick p (.tup xs) L R) (ha : atI xs m = some v) (k : Tr L fun H => Q v H) : Tr L fun H => rIxT K (.ref p) (.int m) H Q := fun H l => ⟨p, xs, m, v, rfl, rfl, sqT hp l, ha, k H l⟩
theorem t_ixS {z : Str} {m : Int} {c : Nat} (hz : z.length ≤ sizeLine) (ha : atI z.cps.toList m = some c) (k : Tr L fun H => Q (.str ⟨#[c]⟩) H) : Tr L fun H => rIxS (.str z) (.int m) H Q := fun H l => ⟨z, m, c, rfl, rfl, hz, ha, k H l⟩
theorem t_slice {r : V → Option Int → Option Int → Hp → VK → Prop} {lo hi : TO} (k : Tr L fun H => te σ H fun x H1 => lo σ H1 fun l H2 => hi σ H2 fun u H3 => r x l u H3 Q) : Tr L fun H => tSl r te lo hi σ H Q := k
theorem t_noPart {QO : Option Int → Hp → Prop} (k : Tr L fun H => QO none H) : Tr L fun H => tNoPart σ H QO := k
theorem t_part {QO : Option Int → Hp → Prop} (k : Tr L fun H => te σ H fun x H1 => ∃ i, x = .int i ∧ QO (some i) H1) : Tr L fun H => tPart te σ H QO := k
theorem t_int {m : Int} {G : Int → Hp → Prop} (k : Tr L fun H => G m H) : Tr L fun H => ∃ i, V.int m = .int i ∧ G i H := fun H l => ⟨m, rfl, k H l⟩
theorem t_slL {lo hi : Option Int} (hp : Pick a (.lst xs) L R) (k : ∀ p, Tr ((p, .lst (cutV xs lo hi)) :: L) fun H => Q (.ref p) H) : Tr L fun H => rSlL K (.ref a) lo hi H Q := fun H l => ⟨a, xs, rfl, sqL hp l, fun p hp' => k p _ (l.new hp')⟩
theorem t_cat {ys : List V} {R' : Lg} {b : Addr} (hp : Pick a (.lst xs) L R) (hq : Pick b (.lst ys) L R') (hz : xs.length + ys.length ≤ sizeLine) (k : ∀ p, Tr ((p, .lst (xs ++ ys)) :: L) fun H => Q (.ref p) H) :
    Tr L fun H => rCat (.ref a) (.ref b) H Q := fun H l => ⟨a, b, xs, ys, rfl, rfl, l.get hp, l.get hq, hz, fun p hp' => k p _ (l.new hp')⟩
theorem t_rep {m : Int} (hp : Pick a (.lst xs) L R) (h1 : -(2 ^ 63) ≤ m) (h2 : m < 2 ^ 63) (hz : xs.length * m.toNat ≤ sizeLine) (k : ∀ p, Tr ((p, .lst (List.replicate m.toNat xs).flatten) :: L) fun H => Q (.ref p) H) :
    Tr L fun H => rRep (.ref a) (.int m) H Q := fun H l => ⟨a, m, xs, rfl, rfl, l.get hp, h1, h2, hz, fun p hp' => k p _ (l.new hp')⟩
/-! ### statements -/
variable {D : Ends} {s1 s2 : TS} {g : TG}
theorem t_seq (k : Tr L fun H => s1 { D with nx := s2 D } σ H) : Tr L fun H => tSeq s1 s2 D σ H := k
theorem t_next (k : Tr L fun H => D.nx σ H) : Tr L fun H => tNext D σ H := k
theorem t_brk (k : Tr L fun H => D.bk σ H) : Tr L fun H => tBreak D σ H := k
theorem t_cnt (k : Tr L fun H => D.ct σ H) : Tr L fun H => tCont D σ H := k
theorem t_asg (k : Tr L fun H => te σ H fun x H1 => g x σ H1 D.nx) : Tr L fun H => tAsg te g D σ H := k
theorem t_name {Qn : SS → Hp → Prop} (hs : SetAt σ i (some v) σ') (k : Tr L fun H => Qn σ' H) : Tr L fun H => gName i v σ H Qn := fun H l => by
  show Qn (σ.set i (some v)) H
  rw [hs.eq]; exact k H l
theorem t_aug {ti : TIp} (h : σ[i]? = some (some x)) (k : Tr L fun H => te σ H fun y H1 => ti x y H1 fun z H2 => gName i z σ H2 D.nx) : Tr L fun H => tAug i te ti D σ H := fun H l => ⟨x, h, k H l⟩
theorem t_ipI {f : Int → Int → Int} {m n : Int} (k : Tr L fun H => Q (.int (f m n)) H) : Tr L fun H => ipI f (.int m) (.int n) H Q := fun H l => ⟨m, n, rfl, rfl, k H l⟩
theorem t_par {j : Nat} (k : Tr L fun H => tr σ H fun vs H1 => ∃ v w, vs = [v, w] ∧ gName i v σ H1 fun σ3 H3 => gName j w σ3 H3 D.nx) : Tr L fun H => tPar i j tr D σ H := k
theorem t_two {w : V} {G : V → V → Hp → Prop} (k : Tr L fun H => G v w H) : Tr L fun H => ∃ x y, [v, w] = [x, y] ∧ G x y H := fun H l => ⟨v, w, rfl, k H l⟩
theorem t_drop (k : Tr L fun H => te σ H fun _ H1 => D.nx σ H1) : Tr L fun H => tDrop te D σ H := k
theorem t_ret (k : Tr L fun H => te σ H D.rt) : Tr L fun H => tRet te D σ H := k
theorem t_retN (k : Tr L fun H => D.rt .non H) : Tr L fun H => tRetN D σ H := k
theorem t_if (k : Tr L fun H => t σ H fun b H1 => if b = true then s1 D σ H1 else s2 D σ H1) : Tr L fun H => tIfS t s1 s2 D σ H := k
theorem t_sub {to ti : TE} {ts : TSet} {Qn : SS → Hp → Prop} (k : Tr L fun H => to σ H fun o H1 => ti σ H1 fun i H2 => ts o i v H2 fun H3 => Qn σ H3) : Tr L fun H => gSub to ti ts v σ H Qn := k
theorem t_setL {m : Int} {j : Nat} (hp : Pick p (.lst xs) L R) (hj : ixN xs.length m = some j) (k : Tr ((p, .lst (xs.set j v)) :: R) G) : Tr L fun H => rSetL (.ref p) (.int m) v H G :=
  fun H l => ⟨p, xs, m, j, rfl, rfl, l.get hp, hj, k _ (l.pick hp).put⟩
theorem t_tupG {n : Nat} {gs : TGs} {Qn : SS → Hp → Prop} (hp : Pick a (.tup xs) L R) (hn : xs.length = n) (k : Tr L fun H => gs xs σ H Qn) : Tr L fun H => gTup K n gs (.ref a) σ H Qn := fun H l => ⟨a, xs, rfl, sqT hp l, hn, k H l⟩
theorem t_consG {gs : TGs} {Qn : SS → Hp → Prop} (k : Tr L fun H => g v σ H fun σ1 H1 => gs xs σ1 H1 Qn) : Tr L fun H => gCons g gs (v :: xs) σ H Qn := fun H l => ⟨v, xs, rfl, k H l⟩
theorem t_nilG {Qn : SS → Hp → Prop} (k : Tr L fun H => Qn σ H) : Tr L fun H => gNil [] σ H Qn := fun H l => ⟨rfl, k H l⟩
/-! ### where one goes on -/
theorem t_nx {f b c : SS → Hp → Prop} {r : VK} (k : Tr L fun H => f σ H) : Tr L fun H => (Ends.mk f r b c).nx σ H := k
theorem t_rt {f b c : SS → Hp → Prop} {r : VK} (k : Tr L fun H => r v H) : Tr L fun H => (Ends.mk f r b c).rt v H := k
theorem t_bk {f b c : SS → Hp → Prop} {r : VK} (k : Tr L fun H => b σ H) : Tr L fun H => (Ends.mk f r b c).bk σ H := k
theorem t_ct {f b c : SS → Hp → Prop} {r : VK} (k : Tr L fun H => c σ H) : Tr L fun H => (Ends.mk f r b c).ct σ H := k
end

/-! ### what is walked -/
/-- n turns; at turn i the value v with val i v L', L' what is made for it -/
structure Wk (J : It) (n : Nat) (val : Nat → V → Lg → Prop) (Src : Lg → Prop) : Prop where
  go : ∀ L H i, Src L → Led H L → i < n → J.go i H
  yld : ∀ L H i v H', Src L → Led H L → i < n → J.yld i H v H' → ∃ L', val i v L' ∧ Led H' (L' ++ L)
  stop : ∀ L H, Src L → Led H L → J.stop n H
section
variable {K : PySem.W.Frag}
/-- the ledger reads a as the list xs -/
def InL (a : Addr) (xs : List V) (L : Lg) : Prop := ∃ R, Pick a (.lst xs) L R
theorem InL.sq {a : Addr} {xs : List V} {L : Lg} {H : Hp} (h : InL a xs L) (l : Led H L) : SqL K H a xs := let ⟨_, p⟩ := h; sqL p l
theorem led_sq_inj {H : Hp} {a : Addr} {xs ys : List V} (h : H a = some (.lst xs)) (h' : SqL K H a ys) (hk : K.lookup a = none) : ys = xs := by
  rcases h' with (h' | ⟨o, h'⟩) | ⟨o, its, n, hl, _⟩
  · rw [h] at h'; cases h'; rfl
  · rw [h] at h'; cases h'
  · rw [hk] at hl; cases hl
theorem wk_list {a : Addr} {xs : List V} : Wk (Itl K a) xs.length (fun i v L' => xs[i]? = some v ∧ L' = []) (InL a xs) where
  go := fun L H i hs l hi => ⟨xs, xs[i], hs.sq l, by simp [hi]⟩
  yld := fun L H i v H' hs l hi hy => ⟨[], ⟨hy.2 xs (hs.sq l), rfl⟩, by rw [hy.1]; exact l⟩
  stop := fun L H hs l => ⟨xs, hs.sq l, Nat.le_refl _⟩
def InT (a : Addr) (xs : List V) (L : Lg) : Prop := ∃ R, Pick a (.tup xs) L R
theorem InT.sq {a : Addr} {xs : List V} {L : Lg} {H : Hp} (h : InT a xs L) (l : Led H L) : SqT K H a xs := let ⟨_, p⟩ := h; sqT p l
theorem wk_tup {a : Addr} {xs : List V} : Wk (Itt K a) xs.length (fun i v L' => xs[i]? = some v ∧ L' = []) (InT a xs) where
  go := fun L H i hs l hi => ⟨xs, xs[i], hs.sq l, by simp [hi]⟩
  yld := fun L H i v H' hs l hi hy => ⟨[], ⟨hy.2 xs (hs.sq l), rfl⟩, by rw [hy.1]; exact l⟩
  stop := fun L H hs l => ⟨xs, hs.sq l, Nat.le_refl _⟩
theorem wk_range {lo : Int} {n : Nat} : Wk (Itr lo n) n (fun i v L' => v = .int (lo + i) ∧ L' = []) (fun _ => True) where
  go := fun L H i _ _ hi => hi
  yld := fun L H i v H' _ l hi hy => ⟨[], ⟨hy.2, rfl⟩, by rw [hy.1]; exact l⟩
  stop := fun L H _ _ => Nat.le_refl n
theorem wk_range3 {lo c : Int} {n : Nat} : Wk (Itc lo c n) n (fun i v L' => v = .int (lo + i * c) ∧ L' = []) (fun _ => True) where
  go := fun L H i _ _ hi => hi
  yld := fun L H i v H' _ l hi hy => ⟨[], ⟨hy.2, rfl⟩, by rw [hy.1]; exact l⟩
  stop := fun L H _ _ => Nat.le_refl n
theorem wk_str {z : Str} : Wk (Its z) z.cps.size (fun i v L' => (∃ c, z.cps[i]? = some c ∧ v = .str ⟨#[c]⟩) ∧ L' = []) (fun _ => True) where
  go := fun L H i _ _ hi => hi
  yld := fun L H i v H' _ l hi hy => ⟨[], ⟨hy.2, rfl⟩, by rw [hy.1]; exact l⟩
  stop := fun L H _ _ => Nat.le_refl _
theorem wk_enum {a : Addr} {xs : List V} : Wk (Ite K a) xs.length (fun i v L' => ∃ T x, v = .ref T ∧ xs[i]? = some x ∧ L' = [(T, .tup [.int (i : Nat), x])]) (InL a xs) where
  go := fun L H i hs l hi => ⟨xs, xs[i], hs.sq l, by simp [hi]⟩
  yld := fun L H i v H' hs l hi hy => by
    obtain ⟨T, x, e, n, eH, q⟩ := hy
    exact ⟨_, ⟨T, x, e, q xs (hs.sq l), rfl⟩, by rw [eH]; exact l.new n⟩
  stop := fun L H hs l => ⟨xs, hs.sq l, Nat.le_refl _⟩
theorem wk_zip {a b : Addr} {xs ys : List V} : Wk (Itz K a b) (min xs.length ys.length) (fun i v L' => ∃ T x y, v = .ref T ∧ xs[i]? = some x ∧ ys[i]? = some y ∧ L' = [(T, .tup [x, y])]) (fun L => InL a xs L ∧ InL b ys L) where
  go := fun L H i hs l hi => by
    have h1 : i < xs.length := by omega
    have h2 : i < ys.length := by omega
    exact ⟨xs, ys, xs[i], ys[i], hs.1.sq l, hs.2.sq l, by simp [h1], by simp [h2]⟩
  yld := fun L H i v H' hs l hi hy => by
    obtain ⟨T, x, y, e, n, eH, q1, q2⟩ := hy
    exact ⟨_, ⟨T, x, y, e, q1 xs (hs.1.sq l), q2 ys (hs.2.sq l), rfl⟩, by rw [eH]; exact l.new n⟩
  stop := fun L H hs l => ⟨xs, ys, hs.1.sq l, hs.2.sq l, by omega⟩
end

section
variable {K : PySem.W.Frag}
theorem wk_zipT {a b : Addr} {xs ys : List V} : Wk (ItzT K a b) (min xs.length ys.length) (fun i v L' => ∃ T x y, v = .ref T ∧ xs[i]? = some x ∧ ys[i]? = some y ∧ L' = [(T, .tup [x, y])]) (fun L => InT a xs L ∧ InT b ys L) where
  go := fun L H i hs l hi => by
    have h1 : i < xs.length := by omega
    have h2 : i < ys.length := by omega
    exact ⟨xs, ys, xs[i], ys[i], hs.1.sq l, hs.2.sq l, by simp [h1], by simp [h2]⟩
  yld := fun L H i v H' hs l hi hy => by
    obtain ⟨T, x, y, e, n, eH, q1, q2⟩ := hy
    exact ⟨_, ⟨T, x, y, e, q1 xs (hs.1.sq l), q2 ys (hs.2.sq l), rfl⟩, by rw [eH]; exact l.new n⟩
  stop := fun L H hs l => ⟨xs, ys, hs.1.sq l, hs.2.sq l, by omega⟩
end
/-! ### for -/
section
variable {L : Lg} {σ : SS} {K : PySem.W.Frag} {te : TE} {tr : TA} {wi : TI} {g : TG} {tb : TS} {D : Ends}
def forK (g : TG) (tb : TS) (D : Ends) (σ : SS) (J : It) (H1 : Hp) : Prop := ∃ W : Nat → Nat → SS → Hp → Prop, (∃ m, W 0 m σ H1) ∧ ∀ i m σ H, W i m σ H →
  (J.stop i H ∧ D.nx σ H) ∨ (J.go i H ∧ ∃ N : SS → Hp → Prop, (∀ σ' H', N σ' H' → ∃ m', m' < m ∧ W (i + 1) m' σ' H') ∧ ∀ x H', J.yld i H x H' → g x σ H' fun σ2 H2 => tb { D with nx := N, ct := N, bk := D.nx } σ2 H2)
theorem t_for (k : Tr L fun H => wi σ H (forK g tb D σ)) : Tr L fun H => tFor wi g tb D σ H := k
/-- the state at a turn's end -/
def Pst {α : Type} (S : Nat → α → SS) (M : Nat → α → Lg) (I : Nat → α → Prop) (i : Nat) (σ : SS) (H : Hp) : Prop := ∃ y, I i y ∧ σ = S i y ∧ Led H (M i y)
theorem t_pst {α : Type} {S : Nat → α → SS} {M : Nat → α → Lg} {I : Nat → α → Prop} {i : Nat} (y : α) (hI : I i y) (hσ : σ = S i y) (hM : Sub L (M i y)) : Tr L fun H => Pst S M I i σ H := fun H l => ⟨y, hI, hσ, l.sub hM⟩
theorem t_forK {α : Type} {J : It} {n : Nat} {val : Nat → V → Lg → Prop} {Src : Lg → Prop} (wk : Wk J n val Src) (S : Nat → α → SS) (M : Nat → α → Lg) (I : Nat → α → Prop)
    (h0 : ∃ y, I 0 y ∧ σ = S 0 y ∧ Sub L (M 0 y)) (hsrc : ∀ i y, I i y → Src (M i y))
    (hs : ∀ i y v L', i < n → I i y → val i v L' → Tr (L' ++ M i y) fun H => g v (S i y) H fun σ2 H2 => tb { D with nx := Pst S M I (i + 1), ct := Pst S M I (i + 1), bk := D.nx } σ2 H2)
    (hd : ∀ y, I n y → Tr (M n y) fun H => D.nx (S n y) H) : Tr L fun H => forK g tb D σ J H := by
  intro H l
  obtain ⟨y0, i0, e0, s0⟩ := h0
  refine ⟨fun i m σ' H' => m = n - i ∧ i ≤ n ∧ Pst S M I i σ' H', ⟨n, by simp, Nat.zero_le _, y0, i0, e0, l.sub s0⟩, ?_⟩
  rintro i m σ' H' ⟨rfl, hi, y, iy, rfl, ly⟩
  by_cases h : i < n
  · refine .inr ⟨wk.go _ _ i (hsrc i y iy) ly h, Pst S M I (i + 1), fun σ2 H2 p => ⟨n - (i + 1), by omega, rfl, h, p⟩, fun v H2 yl => ?_⟩
    obtain ⟨L', hv, l'⟩ := wk.yld _ _ i v H2 (hsrc i y iy) ly h yl
    exact hs i y v L' h iy hv H2 l'
  · obtain rfl : i = n := by omega
    exact .inl ⟨wk.stop _ _ (hsrc i y iy) ly, hd y iy H' ly⟩
/-- the walked things -/
def itL (K : PySem.W.Frag) (x : V) (H : Hp) (R : It → Hp → Prop) : Prop := ∃ a, x = .ref a ∧ (∃ xs, SqL K H a xs) ∧ R (Itl K a) H
def itT (K : PySem.W.Frag) (x : V) (H : Hp) (R : It → Hp → Prop) : Prop := ∃ a, x = .ref a ∧ (∃ xs, SqT K H a xs) ∧ R (Itt K a) H
def itR1 (vs : List V) (H : Hp) (R : It → Hp → Prop) : Prop := ∃ j : Int, vs = [.int j] ∧ -(2 ^ 62) ≤ j ∧ j < 2 ^ 62 ∧ R (Itr 0 j.toNat) H
def itR2 (vs : List V) (H : Hp) (R : It → Hp → Prop) : Prop := ∃ i j : Int, vs = [.int i, .int j] ∧ (-(2 ^ 62) ≤ i ∧ i < 2 ^ 62 ∧ -(2 ^ 62) ≤ j ∧ j < 2 ^ 62) ∧ R (Itr i (j - i).toNat) H
def itR3 (vs : List V) (H : Hp) (R : It → Hp → Prop) : Prop := ∃ (i j c : Int) (n : Nat), vs = [.int i, .int j, .int c] ∧ RgC i j c n ∧ R (Itc i c n) H
def itE (K : PySem.W.Frag) (vs : List V) (H : Hp) (R : It → Hp → Prop) : Prop := ∃ a xs, vs = [.ref a] ∧ SqL K H a xs ∧ R (Ite K a) H
def itZ (K : PySem.W.Frag) (vs : List V) (H : Hp) (R : It → Hp → Prop) : Prop := ∃ a b xs ys, vs = [.ref a, .ref b] ∧ SqL K H a xs ∧ SqL K H b ys ∧ R (Itz K a b) H
def itS (x : V) (H : Hp) (R : It → Hp → Prop) : Prop := ∃ z, x = .str z ∧ R (Its z) H
def itZA (K : PySem.W.Frag) (vs : List V) (H : Hp) (R : It → Hp → Prop) : Prop := ∃ a b xs ys, vs = [.ref a, .ref b] ∧ ((SqL K H a xs ∧ SqL K H b ys ∧ R (Itz K a b) H) ∨ (SqT K H a xs ∧ SqT K H b ys ∧ R (ItzT K a b) H))
variable {RJ : It → Hp → Prop}
theorem t_iZA (k : Tr L fun H => tr σ H fun x H1 => itZA K x H1 RJ) : Tr L fun H => iZipA K tr σ H RJ := k
theorem t_iL (k : Tr L fun H => te σ H fun x H1 => itL K x H1 RJ) : Tr L fun H => iList K te σ H RJ := k
theorem t_iT (k : Tr L fun H => te σ H fun x H1 => itT K x H1 RJ) : Tr L fun H => iTup K te σ H RJ := k
theorem t_iR1 (k : Tr L fun H => tr σ H fun x H1 => itR1 x H1 RJ) : Tr L fun H => iRng1 tr σ H RJ := k
theorem t_iR2 (k : Tr L fun H => tr σ H fun x H1 => itR2 x H1 RJ) : Tr L fun H => iRng2 tr σ H RJ := k
theorem t_iR3 (k : Tr L fun H => tr σ H fun x H1 => itR3 x H1 RJ) : Tr L fun H => iRng3 tr σ H RJ := k
theorem t_iE (k : Tr L fun H => tr σ H fun x H1 => itE K x H1 RJ) : Tr L fun H => iEnum K tr σ H RJ := k
theorem t_iZ (k : Tr L fun H => tr σ H fun x H1 => itZ K x H1 RJ) : Tr L fun H => iZip K tr σ H RJ := k
theorem t_iS (k : Tr L fun H => te σ H fun x H1 => itS x H1 RJ) : Tr L fun H => iStr te σ H RJ := k
variable {R R' : Lg} {a b : Addr} {xs ys : List V}
theorem t_itL (hp : Pick a (.lst xs) L R) (k : Tr L fun H => RJ (Itl K a) H) : Tr L fun H => itL K (.ref a) H RJ := fun H l => ⟨a, rfl, ⟨xs, sqL hp l⟩, k H l⟩
theorem t_itT (hp : Pick a (.tup xs) L R) (k : Tr L fun H => RJ (Itt K a) H) : Tr L fun H => itT K (.ref a) H RJ := fun H l => ⟨a, rfl, ⟨xs, sqT hp l⟩, k H l⟩
theorem t_itR1 {j : Int} (h1 : -(2 ^ 62) ≤ j) (h2 : j < 2 ^ 62) (k : Tr L fun H => RJ (Itr 0 j.toNat) H) : Tr L fun H => itR1 [.int j] H RJ := fun H l => ⟨j, rfl, h1, h2, k H l⟩
theorem t_itR2 {i j : Int} (h1 : -(2 ^ 62) ≤ i ∧ i < 2 ^ 62 ∧ -(2 ^ 62) ≤ j ∧ j < 2 ^ 62) (k : Tr L fun H => RJ (Itr i (j - i).toNat) H) : Tr L fun H => itR2 [.int i, .int j] H RJ := fun H l => ⟨i, j, rfl, h1, k H l⟩
theorem t_itR3 {i j c : Int} {n : Nat} (h1 : RgC i j c n) (k : Tr L fun H => RJ (Itc i c n) H) : Tr L fun H => itR3 [.int i, .int j, .int c] H RJ := fun H l => ⟨i, j, c, n, rfl, h1, k H l⟩
theorem t_itE (hp : Pick a (.lst xs) L R) (k : Tr L fun H => RJ (Ite K a) H) : Tr L fun H => itE K [.ref a] H RJ := fun H l => ⟨a, xs, rfl, sqL hp l, k H l⟩
theorem t_itZ (hp : Pick a (.lst xs) L R) (hq : Pick b (.lst ys) L R') (k : Tr L fun H => RJ (Itz K a b) H) : Tr L fun H => itZ K [.ref a, .ref b] H RJ := fun H l => ⟨a, b, xs, ys, rfl, sqL hp l, sqL hq l, k H l⟩
theorem t_itZL (hp : Pick a (.lst xs) L R) (hq : Pick b (.lst ys) L R') (k : Tr L fun H => RJ (Itz K a b) H) : Tr L fun H => itZA K [.ref a, .ref b] H RJ := fun H l => ⟨a, b, xs, ys, rfl, .inl ⟨sqL hp l, sqL hq l, k H l⟩⟩
theorem t_itZT (hp : Pick a (.tup xs) L R) (hq : Pick b (.tup ys) L R') (k : Tr L fun H => RJ (ItzT K a b) H) : Tr L fun H => itZA K [.ref a, .ref b] H RJ := fun H l => ⟨a, b, xs, ys, rfl, .inr ⟨sqT hp l, sqT hq l, k H l⟩⟩
theorem t_itS {z : Str} (k : Tr L fun H => RJ (Its z) H) : Tr L fun H => itS (.str z) H RJ := fun H l => ⟨z, rfl, k H l⟩
theorem t_nxP {α : Type} {S : Nat → α → SS} {M : Nat → α → Lg} {I : Nat → α → Prop} {i : Nat} {r : VK} {b c : SS → Hp → Prop} (k : Tr L fun H => Pst S M I i σ H) : Tr L fun H => Ends.nx ⟨Pst S M I i, r, b, c⟩ σ H := k
theorem t_ctP {α : Type} {S : Nat → α → SS} {M : Nat → α → Lg} {I : Nat → α → Prop} {i : Nat} {r : VK} {f b : SS → Hp → Prop} (k : Tr L fun H => Pst S M I i σ H) : Tr L fun H => Ends.ct ⟨f, r, b, Pst S M I i⟩ σ H := k
/-! ### while -/
/-- the state at the end of a while's turn -/
def Wst {α : Type} (S : α → SS) (M : α → Lg) (I : α → Prop) (μ : α → Nat) (n : Nat) (σ : SS) (H : Hp) : Prop := ∃ z, I z ∧ μ z < n ∧ σ = S z ∧ Led H (M z)
theorem t_nxW {α : Type} {S : α → SS} {M : α → Lg} {I : α → Prop} {μ : α → Nat} {n : Nat} {r : VK} {b c : SS → Hp → Prop} (k : Tr L fun H => Wst S M I μ n σ H) : Tr L fun H => Ends.nx ⟨Wst S M I μ n, r, b, c⟩ σ H := k
theorem t_ctW {α : Type} {S : α → SS} {M : α → Lg} {I : α → Prop} {μ : α → Nat} {n : Nat} {r : VK} {f b : SS → Hp → Prop} (k : Tr L fun H => Wst S M I μ n σ H) : Tr L fun H => Ends.ct ⟨f, r, b, Wst S M I μ n⟩ σ H := k
theorem t_while {α : Type} {tc : TT} (S : α → SS) (M : α → Lg) (I : α → Prop) (μ : α → Nat) (h0 : ∃ y, I y ∧ σ = S y ∧ Sub L (M y))
    (hs : ∀ y, I y → ∃ b, (∀ QB : Bool → Hp → Prop, Tr (M y) (fun H => QB b H) → Tr (M y) fun H => tc (S y) H QB) ∧
      (b = true → Tr (M y) fun H => tb { D with nx := Wst S M I μ (μ y), ct := Wst S M I μ (μ y), bk := D.nx } (S y) H) ∧
      (b = false → Tr (M y) fun H => D.nx (S y) H)) : Tr L fun H => tWhile tc tb D σ H := by
  intro H l
  obtain ⟨y0, i0, e0, s0⟩ := h0
  refine ⟨fun m σ' H' => ∃ y, m = μ y ∧ I y ∧ σ' = S y ∧ Led H' (M y), ⟨μ y0, y0, rfl, i0, e0, l.sub s0⟩, ?_⟩
  rintro m σ' H' ⟨y, rfl, iy, rfl, ly⟩
  obtain ⟨b, h1, h2, h3⟩ := hs y iy
  refine h1 _ (fun H2 l2 => ?_) H' ly
  cases b with
  | true =>
    rw [if_pos rfl]
    exact ⟨_, fun σ3 H3 ⟨z, iz, lt, e, lz⟩ => ⟨μ z, lt, z, rfl, iz, e, lz⟩, h2 rfl H2 l2⟩
  | false =>
    rw [if_neg Bool.false_ne_true]
    exact h3 rfl H2 l2
theorem t_whl {α : Type} {S : α → SS} {M : α → Lg} {I : α → Prop} {μ : α → Nat} {n : Nat} (y : α) (hI : I y) (hm : μ y < n) (hσ : σ = S y) (hM : Sub L (M y)) : Tr L fun H => Wst S M I μ n σ H :=
  fun H l => ⟨y, hI, hm, hσ, l.sub hM⟩
end

/-! ### list comprehensions -/
section
variable {L : Lg} {σ σ0 : SS} {K : PySem.W.Frag} {wi : TI} {g : TG} {tt : TT} {te : TE} {vs : List Nat} {Q : VK}
def lcK (g : TG) (tt : TT) (te : TE) (vs : List Nat) (σ : SS) (Q : VK) (J : It) (H1 : Hp) : Prop := ∀ D, H1 D = none → ∃ W : Nat → Nat → Hp → Prop, (∃ m, W 0 m (upd H1 D (.lst []))) ∧ ∀ i m H, W i m H →
  (J.stop i H ∧ Q (.ref D) H) ∨ (J.go i H ∧ ∃ Nx : Hp → Prop, (∀ H', Nx H' → ∃ m', m' < m ∧ W (i + 1) m' H') ∧ ∀ x H', J.yld i H x H' → g x (wipe σ vs) H' fun σ2 H2 => wipe σ2 vs = wipe σ vs ∧ tt σ2 H2 fun b H3 =>
    if b = true then te σ2 H3 fun y H4 => ∃ acc, H4 D = some (.lst acc) ∧ acc.length < sizeLine ∧ Nx (upd H4 D (.lst (acc ++ [y]))) else Nx H3)
theorem t_lc (k : Tr L fun H => wi σ H (lcK g tt te vs σ Q)) : Tr L fun H => tLc wi g tt te vs σ H Q := k
/-- an item is added to the new list -/
def lcAdd (D : Addr) (N : Hp → Prop) (y : V) (H : Hp) : Prop := ∃ acc, H D = some (.lst acc) ∧ acc.length < sizeLine ∧ N (upd H D (.lst (acc ++ [y])))
def lcNx {α : Type} (M : Nat → α → Lg) (out : Nat → α → List V) (I : Nat → α → Prop) (D : Addr) (i : Nat) (H : Hp) : Prop := ∃ y, I i y ∧ Led H ((D, .lst (out i y)) :: M i y)
theorem t_lcAdd {α : Type} {M : Nat → α → Lg} {out : Nat → α → List V} {I : Nat → α → Prop} {D : Addr} {i : Nat} {acc : List V} {R : Lg} {v : V} (y : α) (hI : I i y) (hp : Pick D (.lst acc) L R) (hz : acc.length < sizeLine)
    (he : acc ++ [v] = out i y) (hM : Sub R (M i y)) : Tr L fun H => lcAdd D (lcNx M out I D i) v H := fun H l => by
  refine ⟨acc, l.get hp, hz, y, hI, ?_⟩
  rw [he]
  have l2 := (l.pick hp).put (o' := .lst (out i y))
  exact l2.sub (.take .head hM)
theorem t_lcSkip {α : Type} {M : Nat → α → Lg} {out : Nat → α → List V} {I : Nat → α → Prop} {D : Addr} {i : Nat} (y : α) (hI : I i y) (hM : Sub L ((D, .lst (out i y)) :: M i y)) : Tr L fun H => lcNx M out I D i H := fun H l => ⟨y, hI, l.sub hM⟩
theorem t_lcK {α : Type} {J : It} {n : Nat} {val : Nat → V → Lg → Prop} {Src : Lg → Prop} (wk : Wk J n val Src) (hw : wipe σ vs = σ0) (M : Nat → α → Lg) (out : Nat → α → List V) (I : Nat → α → Prop)
    (h0 : ∃ y, I 0 y ∧ out 0 y = [] ∧ Sub L (M 0 y)) (hsrc : ∀ D i y, I i y → Src ((D, .lst (out i y)) :: M i y))
    (hs : ∀ D i y v L', i < n → I i y → val i v L' → Tr (L' ++ (D, .lst (out i y)) :: M i y) fun H => g v σ0 H fun σ2 H2 => wipe σ2 vs = σ0 ∧ tt σ2 H2 fun b H3 =>
      if b = true then te σ2 H3 (lcAdd D (lcNx M out I D (i + 1))) else lcNx M out I D (i + 1) H3)
    (hd : ∀ D y, I n y → Tr ((D, .lst (out n y)) :: M n y) fun H => Q (.ref D) H) : Tr L fun H => lcK g tt te vs σ Q J H := by
  intro H l D hD
  obtain ⟨y0, i0, e0, s0⟩ := h0
  have start : lcNx M out I D 0 (upd H D (.lst [])) := ⟨y0, i0, by rw [e0]; exact (l.new hD).sub (.take .head s0)⟩
  refine ⟨fun i m H' => m = n - i ∧ i ≤ n ∧ lcNx M out I D i H', ⟨n, by simp, Nat.zero_le _, start⟩, ?_⟩
  rintro i m H' ⟨rfl, hi, y, iy, ly⟩
  by_cases h : i < n
  · refine .inr ⟨wk.go _ _ i (hsrc D i y iy) ly h, lcNx M out I D (i + 1), fun H2 p => ⟨n - (i + 1), by omega, rfl, h, p⟩, fun v H2 yl => ?_⟩
    obtain ⟨L', hv, l'⟩ := wk.yld _ _ i v H2 (hsrc D i y iy) ly h yl
    rw [hw]
    exact hs D i y v L' h iy hv H2 l'
  · obtain rfl : i = n := by omega
    exact .inl ⟨wk.stop _ _ (hsrc D i y iy) ly, hd D y iy H' ly⟩
theorem t_wiped {G : Hp → Prop} {σ2 : SS} (hw : wipe σ2 vs = σ0) (k : Tr L G) : Tr L fun H => wipe σ2 vs = σ0 ∧ G H := fun H l => ⟨hw, k H l⟩
theorem t_yes {QB : Bool → Hp → Prop} (k : Tr L fun H => QB true H) : Tr L fun H => tYes σ H QB := k
end
end Hz
namespace Hz
open PySem PySem.Spec PyProof.Rows L2 RZ
/-- the slot i of σ holds v -/
inductive GetAt : SS → Nat → V → Prop where
  | zero {v : V} {r : SS} : GetAt (some v :: r) 0 v
  | succ {i : Nat} {v : V} {y : Option V} {r : SS} : GetAt r i v → GetAt (y :: r) (i + 1) v
theorem GetAt.eq {σ : SS} {i : Nat} {v : V} (h : GetAt σ i v) : σ[i]? = some (some v) := by
  induction h with
  | zero => rfl
  | succ _ ih => rw [List.getElem?_cons_succ, ih]
section
variable {L R : Lg} {σ σ' : SS} {Q : VK} {te : TE} {D : Ends} {v x : V} {i : Nat}
theorem t_varA (h : GetAt σ i v) (k : Tr L fun H => Q v H) : Tr L fun H => tVar i σ H Q := t_var h.eq k
theorem t_augA {ti : TIp} (h : GetAt σ i x) (k : Tr L fun H => te σ H fun y H1 => ti x y H1 fun z H2 => gName i z σ H2 D.nx) : Tr L fun H => tAug i te ti D σ H := t_aug h.eq k
end
end Hz

/-! Hz, rules with readings that bear a name. -/
namespace Hz
open PySem PySem.Spec PyProof.Rows L2 RZ
/-! ### the module's names -/
/-- a constant of the module -/
def GV (mg : Str → Option Value) (x : Str) (v : V) : Prop := ∃ u, mg x = some u ∧ RelV v u
section
variable {X : Cx}
theorem pe_gv {x : Str} {v : V} {pos : Pos} (h : GV X.mg x v) (hg : Gl X x := by rfl) (hd : (x == ("__debug__" : Str)) = false := by decide) (hc : (x == ("__classdict__" : Str)) = false := by decide) : PE X (.Name x pos) (tC v) := by
  obtain ⟨u, hm, r⟩ := h
  exact pe_glob hg hm r hd
/-! ### numbers -/
def cPow (i j : Int) : Prop := 0 ≤ j ∧ (Builtin.Int.intBits i : Int) * j ≤ 2 ^ 27
theorem op_powW : OpR X (binaryOp .Pow) (rI cPow fun i j => .int (i ^ j.toNat)) := opI fun _ _ _ _ _ _ _ hc q => pow_int hc.1 hc.2 q
def cMul (i j : Int) : Prop := (-(2 ^ 64) < i ∧ i < 2 ^ 64) ∨ (-(2 ^ 64) < j ∧ j < 2 ^ 64) ∨ CMulW i j
theorem op_mulA : OpR X (binaryOp .Mult) (rI cMul fun i j => .int (i * j)) := opI fun _ _ _ _ _ _ _ hc q => by
  rcases hc with h | h | h
  · exact mul_int q (CMul.ok (.inl h))
  · exact mul_int q (CMul.ok (.inr h))
  · exact mul_int q h.ok
def rMax2 : List V → Hp → VK → Prop := fun xs H Q => ∃ i j, xs = [.int i, .int j] ∧ Q (.int (max i j)) H
def rMin2 : List V → Hp → VK → Prop := fun xs H Q => ∃ i j, xs = [.int i, .int j] ∧ Q (.int (min i j)) H
theorem max_ite (i j : Int) : (if j > i then j else i) = max i j := by split <;> omega
theorem min_ite (i j : Int) : (if j < i then j else i) = min i j := by split <;> omega
theorem c_max2 (hc : X.calm = true) : CallR X (.builtin "max") rMax2 := fun pins s σ H xs us Q I r ⟨i, j, e, q⟩ => call_max2 hc pins s σ H xs us Q I r ⟨i, j, e, by rw [max_ite]; exact q⟩
theorem c_min2 (hc : X.calm = true) : CallR X (.builtin "min") rMin2 := fun pins s σ H xs us Q I r ⟨i, j, e, q⟩ => call_min2 hc pins s σ H xs us Q I r ⟨i, j, e, by rw [min_ite]; exact q⟩
def rInt : List V → Hp → VK → Prop := fun xs H Q => (∃ i, xs = [.int i] ∧ Q (.int i) H) ∨ ∃ k, xs = [.bl k] ∧ Q (.int (if k then 1 else 0)) H
theorem c_int : CallR X (.type "int") rInt := call_int1
/-! ### len, isinstance, list(..), tuple(..) -/
def rLen (K : PySem.W.Frag) : List V → Hp → VK → Prop := fun xs H Q => ∃ x n, xs = [x] ∧ LenV K x H n ∧ Q (.int n) H
theorem c_len : CallR X (.builtin "len") (rLen X.K) := call_len
def rIs (K : PySem.W.Frag) : List V → Hp → VK → Prop := fun xs H Q => ∃ (x c : V) (t u : Value) (b : Bool), xs = [x, c] ∧ ClsV c u ∧ TyX K H x t ∧ PySem.W.kitOne K t u = some b ∧ Q (.bl b) H
theorem c_is : CallR X (.builtin "isinstance") (rIs X.K) := call_isi
def rIsT (K : PySem.W.Frag) : List V → Hp → VK → Prop := fun xs H Q => ∃ (x : V) (tp : Addr) (cs : List V) (t : Value) (us : List Value) (b : Bool), xs = [x, .ref tp] ∧ H tp = some (.tup cs) ∧ Paired ClsV cs us ∧ TyX K H x t ∧ PySem.W.kitAny K t us = some b ∧ Q (.bl b) H
theorem c_isT : CallR X (.builtin "isinstance") (rIsT X.K) := call_isiT
def rList (K : PySem.W.Frag) : List V → Hp → VK → Prop := fun xs H Q => ∃ p ys, xs = [.ref p] ∧ (SqL K H p ys ∨ SqT K H p ys) ∧ ∀ l, H l = none → Q (.ref l) (upd H l (.lst ys))
theorem c_list : CallR X (.type "list") (rList X.K) := call_list_of
def rTuple (K : PySem.W.Frag) : List V → Hp → VK → Prop := fun xs H Q => ∃ p ys, xs = [.ref p] ∧ ((SqL K H p ys ∧ ∀ l, H l = none → Q (.ref l) (upd H l (.tup ys))) ∨ (SqT K H p ys ∧ Q (.ref p) H))
theorem c_tuple : CallR X (.type "tuple") (rTuple X.K) := call_tuple_of
end
/-! ### their steps -/
section
variable {L R : Lg} {Q : VK} {K : PySem.W.Frag} {a p : Addr} {xs : List V} {σ : SS}
theorem t_max2 {i j : Int} (k : Tr L fun H => Q (.int (max i j)) H) : Tr L fun H => rMax2 [.int i, .int j] H Q := fun H l => ⟨i, j, rfl, k H l⟩
theorem t_min2 {i j : Int} (k : Tr L fun H => Q (.int (min i j)) H) : Tr L fun H => rMin2 [.int i, .int j] H Q := fun H l => ⟨i, j, rfl, k H l⟩
theorem t_intB {b : Bool} (k : Tr L fun H => Q (.int (if b then 1 else 0)) H) : Tr L fun H => rInt [.bl b] H Q := fun H l => .inr ⟨b, rfl, k H l⟩
theorem t_intI {i : Int} (k : Tr L fun H => Q (.int i) H) : Tr L fun H => rInt [.int i] H Q := fun H l => .inl ⟨i, rfl, k H l⟩
theorem t_lenL (hp : Pick p (.lst xs) L R) (k : Tr L fun H => Q (.int xs.length) H) : Tr L fun H => rLen K [.ref p] H Q := fun H l => ⟨_, _, rfl, .inl ⟨xs, sqL hp l, rfl⟩, k H l⟩
theorem t_lenT (hp : Pick p (.tup xs) L R) (k : Tr L fun H => Q (.int xs.length) H) : Tr L fun H => rLen K [.ref p] H Q := fun H l => ⟨_, _, rfl, .inr ⟨xs, sqT hp l, rfl⟩, k H l⟩
theorem t_lenS {z : Str} (hz : z.length ≤ sizeLine) (k : Tr L fun H => Q (.int z.length) H) : Tr L fun H => rLen K [.str z] H Q := fun H l => ⟨_, _, rfl, ⟨hz, rfl⟩, k H l⟩
/-- the type's name of a value that is no object -/
def tyN : V → String
  | .non => "NoneType"
  | .bl _ => "bool"
  | .int _ => "int"
  | .str _ => "str"
  | .byt _ => "bytes"
  | .flt _ => "float"
  | _ => "?"
theorem tyN_of {x : V} {H : Hp} (h : (tyN x == "?") = false) : TyX K H x (.type (tyN x)) := by
  cases x with
  | non => exact .base .non
  | bl b => exact .base (.bl b)
  | int i => exact .base (.int i)
  | str z => exact .base (.str z)
  | byt b => exact .byt b
  | flt b => exact .base (.flt b)
  | ref a => cases h
  | ty n => cases h
theorem t_isV {x : V} {C : String} {b : Bool} (hn : (tyN x == "?") = false) (hb : kitB (tyN x) C = some b) (k : Tr L fun H => Q (.bl b) H) : Tr L fun H => rIs K [x, .ty C] H Q :=
  fun H l => ⟨x, .ty C, _, _, b, rfl, .ty C, tyN_of hn, kit_ty hb, k H l⟩
theorem t_isL {C : String} {b : Bool} (hp : Pick p (.lst xs) L R) (hb : kitB "list" C = some b) (k : Tr L fun H => Q (.bl b) H) : Tr L fun H => rIs K [.ref p, .ty C] H Q :=
  fun H l => ⟨_, .ty C, _, _, b, rfl, .ty C, .base (.lst (l.get hp)), kit_ty hb, k H l⟩
theorem t_isT {C : String} {b : Bool} (hp : Pick p (.tup xs) L R) (hb : kitB "tuple" C = some b) (k : Tr L fun H => Q (.bl b) H) : Tr L fun H => rIs K [.ref p, .ty C] H Q :=
  fun H l => ⟨_, .ty C, _, _, b, rfl, .ty C, .base (.tup (l.get hp)), kit_ty hb, k H l⟩
theorem t_isD {C : String} {b : Bool} {kvs : List (Key × V)} (hp : Pick p (.dK kvs) L R) (hb : kitB "dict" C = some b) (k : Tr L fun H => Q (.bl b) H) : Tr L fun H => rIs K [.ref p, .ty C] H Q :=
  fun H l => ⟨_, .ty C, _, _, b, rfl, .ty C, .base (.dK (l.get hp)), kit_ty hb, k H l⟩
/-- one of several types -/
def kitBs (T : String) : List String → Option Bool
  | [] => some false
  | C :: r => match kitB T C with
    | some true => some true
    | some false => kitBs T r
    | none => none
theorem kitBs_any : ∀ {T : String} {Cs : List String} {b : Bool}, kitBs T Cs = some b → PySem.W.kitAny K (.type T) (Cs.map Value.type) = some b
  | T, [], b, h => by
    cases h
    exact kitAny_nil
  | T, C :: r, b, h => by
    unfold kitBs at h
    cases e : kitB T C with
    | none => rw [e] at h; cases h
    | some c =>
      rw [e] at h
      cases c with
      | true => cases h; exact kitAny_cons (kit_ty e) (fun z => nomatch z) fun _ => rfl
      | false => exact kitAny_cons (kit_ty e) (fun _ => kitBs_any h) fun z => nomatch z
theorem cls_tys : ∀ Cs : List String, Paired ClsV (Cs.map V.ty) (Cs.map Value.type)
  | [] => .nil
  | C :: r => .cons (.ty C) (cls_tys r)
theorem t_isTV {x : V} {Cs : List String} {b : Bool} {tp : Addr} (hp : Pick tp (.tup (Cs.map V.ty)) L R) (hn : (tyN x == "?") = false) (hb : kitBs (tyN x) Cs = some b) (k : Tr L fun H => Q (.bl b) H) : Tr L fun H => rIsT K [x, .ref tp] H Q :=
  fun H l => ⟨x, tp, _, _, _, b, rfl, l.get hp, cls_tys Cs, tyN_of hn, kitBs_any hb, k H l⟩
theorem t_isTL {R' : Lg} {Cs : List String} {b : Bool} {tp : Addr} (hp : Pick tp (.tup (Cs.map V.ty)) L R) (hq : Pick p (.lst xs) L R') (hb : kitBs "list" Cs = some b) (k : Tr L fun H => Q (.bl b) H) : Tr L fun H => rIsT K [.ref p, .ref tp] H Q :=
  fun H l => ⟨_, tp, _, _, _, b, rfl, l.get hp, cls_tys Cs, .base (.lst (l.get hq)), kitBs_any hb, k H l⟩
theorem t_isTT {R' : Lg} {Cs : List String} {b : Bool} {tp : Addr} (hp : Pick tp (.tup (Cs.map V.ty)) L R) (hq : Pick p (.tup xs) L R') (hb : kitBs "tuple" Cs = some b) (k : Tr L fun H => Q (.bl b) H) : Tr L fun H => rIsT K [.ref p, .ref tp] H Q :=
  fun H l => ⟨_, tp, _, _, _, b, rfl, l.get hp, cls_tys Cs, .base (.tup (l.get hq)), kitBs_any hb, k H l⟩
theorem t_isTD {R' : Lg} {Cs : List String} {b : Bool} {tp : Addr} {kvs : List (Key × V)} (hp : Pick tp (.tup (Cs.map V.ty)) L R) (hq : Pick p (.dK kvs) L R') (hb : kitBs "dict" Cs = some b) (k : Tr L fun H => Q (.bl b) H) : Tr L fun H => rIsT K [.ref p, .ref tp] H Q :=
  fun H l => ⟨_, tp, _, _, _, b, rfl, l.get hp, cls_tys Cs, .base (.dK (l.get hq)), kitBs_any hb, k H l⟩
theorem t_listL (hp : Pick a (.lst xs) L R) (k : ∀ p, Tr ((p, .lst xs) :: L) fun H => Q (.ref p) H) : Tr L fun H => rList K [.ref a] H Q := fun H l => ⟨a, xs, rfl, .inl (sqL hp l), fun p hp' => k p _ (l.new hp')⟩
theorem t_listT (hp : Pick a (.tup xs) L R) (k : ∀ p, Tr ((p, .lst xs) :: L) fun H => Q (.ref p) H) : Tr L fun H => rList K [.ref a] H Q := fun H l => ⟨a, xs, rfl, .inr (sqT hp l), fun p hp' => k p _ (l.new hp')⟩
theorem t_tupleL (hp : Pick a (.lst xs) L R) (k : ∀ p, Tr ((p, .tup xs) :: L) fun H => Q (.ref p) H) : Tr L fun H => rTuple K [.ref a] H Q := fun H l => ⟨a, xs, rfl, .inl ⟨sqL hp l, fun p hp' => k p _ (l.new hp')⟩⟩
/-- list(range(..)) -/
def newRg (m n : Int) (H : Hp) (Q : VK) : Prop := RgOk m n ∧ ∀ q, H q = none → Q (.ref q) (upd H q (.lst (rgV m n)))
theorem t_lstRg {te : SS → Hp → (Int → Int → Hp → Prop) → Prop} (k : Tr L fun H => te σ H fun m n H1 => newRg m n H1 Q) : Tr L fun H => tLstRg te σ H Q := k
theorem t_rg1 {te : TE} {QQ : Int → Int → Hp → Prop} (k : Tr L fun H => te σ H fun x H1 => ∃ n, x = .int n ∧ QQ 0 n H1) : Tr L fun H => tRg1 te σ H QQ := k
theorem t_rg2 {te tf : TE} {QQ : Int → Int → Hp → Prop} (k : Tr L fun H => te σ H fun x H1 => tf σ H1 fun y H2 => ∃ i j, x = .int i ∧ y = .int j ∧ QQ i j H2) : Tr L fun H => tRg2 te tf σ H QQ := k
theorem t_int2 {m n : Int} {G : Int → Int → Hp → Prop} (k : Tr L fun H => G m n H) : Tr L fun H => ∃ i j, V.int m = .int i ∧ V.int n = .int j ∧ G i j H := fun H l => ⟨m, n, rfl, rfl, k H l⟩
theorem t_newRg {m n : Int} (h : RgOk m n) (k : ∀ p, Tr ((p, .lst (rgV m n)) :: L) fun H => Q (.ref p) H) : Tr L fun H => newRg m n H Q := fun H l => ⟨h, fun p hp => k p _ (l.new hp)⟩
/-- xs[::-1] -/
def newRev (K : PySem.W.Frag) (x : V) (H : Hp) (Q : VK) : Prop := ∃ a xs, x = .ref a ∧ SqL K H a xs ∧ ∀ p, H p = none → Q (.ref p) (upd H p (.lst xs.reverse))
theorem t_revL {te : TE} (k : Tr L fun H => te σ H fun x H1 => newRev K x H1 Q) : Tr L fun H => tRevL K te σ H Q := k
theorem t_newRev (hp : Pick a (.lst xs) L R) (k : ∀ p, Tr ((p, .lst xs.reverse) :: L) fun H => Q (.ref p) H) : Tr L fun H => newRev K (.ref a) H Q := fun H l => ⟨a, xs, rfl, sqL hp l, fun p hp' => k p _ (l.new hp')⟩
theorem t_isB {m n : Bool} (k : Tr L fun H => Q (.bl (decide (m = n))) H) : Tr L fun H => rIsB (.bl m) (.bl n) H Q := fun H l => ⟨m, n, rfl, rfl, k H l⟩
theorem t_notB {m n : Bool} (k : Tr L fun H => Q (.bl (!decide (m = n))) H) : Tr L fun H => rNotB (.bl m) (.bl n) H Q := fun H l => ⟨m, n, rfl, rfl, k H l⟩
theorem t_all {bs : List Bool} (hp : Pick a (.lst (bs.map V.bl)) L R) (k : Tr L fun H => Q (.bl (bs.all id)) H) : Tr L fun H => rAll K [.ref a] H Q := fun H l => ⟨a, bs, rfl, sqL hp l, k H l⟩
theorem t_any {bs : List Bool} (hp : Pick a (.lst (bs.map V.bl)) L R) (k : Tr L fun H => Q (.bl (bs.any id)) H) : Tr L fun H => rAny K [.ref a] H Q := fun H l => ⟨a, bs, rfl, sqL hp l, k H l⟩
theorem t_sum {ns : List Int} (hp : Pick a (.lst (ns.map V.int)) L R) (k : Tr L fun H => Q (.int ns.sum) H) : Tr L fun H => rSum K [.ref a] H Q := fun H l => ⟨a, ns, rfl, sqL hp l, k H l⟩
theorem t_maxL {ns : List Int} (hp : Pick a (.lst (ns.map V.int)) L R) (h0 : 0 < ns.length) (k : ∀ m, m ∈ ns → (∀ y, y ∈ ns → y ≤ m) → Tr L fun H => Q (.int m) H) : Tr L fun H => rMax K [.ref a] H Q := fun H l => ⟨a, ns, rfl, sqL hp l, h0, fun m h1 h2 => k m h1 h2 H l⟩
theorem t_minL {ns : List Int} (hp : Pick a (.lst (ns.map V.int)) L R) (h0 : 0 < ns.length) (k : ∀ m, m ∈ ns → (∀ y, y ∈ ns → m ≤ y) → Tr L fun H => Q (.int m) H) : Tr L fun H => rMin K [.ref a] H Q := fun H l => ⟨a, ns, rfl, sqL hp l, h0, fun m h1 h2 => k m h1 h2 H l⟩
/-- data by the ledger -/
def DpL (K : PySem.W.Frag) (L : Lg) (x : V) (d : PyData) : Prop := ∀ H, Led H L → Dp K H x d
theorem dpAll_ints {H : Hp} : ∀ ns : List Int, DpAll K H (ns.map V.int) (ns.map PyData.int)
  | [] => .nil
  | n :: r => .cons (.int n) (dpAll_ints r)
theorem dpl_ints {ns : List Int} (hp : Pick a (.lst (ns.map V.int)) L R) : DpL K L (.ref a) (.list (ns.map PyData.int)) := fun H l => .lst (sqL hp l) (dpAll_ints ns)
theorem t_repr {x : V} {d : PyData} (hd : DpL K L x d) (hs : d.showable = true) (hk : d.depth < 60) (hz : d.shown.length ≤ sizeLine) (k : Tr L fun H => Q (.str d.shown) H) : Tr L fun H => rRepr K [x] H Q :=
  fun H l => ⟨x, d, rfl, hd H l, hs, hk, hz, k H l⟩
theorem t_eqD {x y : V} {d e : PyData} (hd : DpL K L x d) (he : DpL K L y e) (sd : SeqAt.shaped d = true) (se : SeqAt.shaped e = true) (k : Tr L fun H => Q (.bl (PyData.eqv d e)) H) : Tr L fun H => rEqD K x y H Q :=
  fun H l => ⟨d, e, hd H l, he H l, sd, se, k H l⟩
theorem t_neD {x y : V} {d e : PyData} (hd : DpL K L x d) (he : DpL K L y e) (sd : SeqAt.shaped d = true) (se : SeqAt.shaped e = true) (k : Tr L fun H => Q (.bl (!PyData.eqv d e)) H) : Tr L fun H => rNeD K x y H Q :=
  fun H l => ⟨d, e, hd H l, he H l, sd, se, k H l⟩
end
end Hz

/-! Hz, part D: data by the ledger; defs by name; types by the ledger. -/
namespace Hz
open PySem PySem.Spec PyProof.Rows L2 RZ
/-! ### a def of the text, by its name -/
def Df (K : PySem.W.Frag) (mg : Str → Option Value) (x : Str) (st : Stmt) : Prop := ∃ (f : Addr) (fd : FuncData), mg x = some (.ref f) ∧ Fun K x x st f fd
/-- the built-in names are the built-ins -/
structure Blt (mg : Str → Option Value) : Prop where
  len_ : mg "len" = none
  isinstance_ : mg "isinstance" = none
  int_ : mg "int" = none
  bool_ : mg "bool" = none
  str_ : mg "str" = none
  list_ : mg "list" = none
  tuple_ : mg "tuple" = none
  dict_ : mg "dict" = none
  set_ : mg "set" = none
  range_ : mg "range" = none
  enumerate_ : mg "enumerate" = none
  zip_ : mg "zip" = none
  repr_ : mg "repr" = none
  max_ : mg "max" = none
  min_ : mg "min" = none
  all_ : mg "all" = none
  any_ : mg "any" = none
  sum_ : mg "sum" = none
  sorted_ : mg "sorted" = none
  abs_ : mg "abs" = none
theorem boot_len : bootBuiltins "len" = some (.builtin "len") := PySem.boot_len
theorem boot_min : bootBuiltins "min" = some (.builtin "min") := by decide +kernel
theorem boot_max : bootBuiltins "max" = some (.builtin "max") := by decide +kernel
theorem boot_all : bootBuiltins "all" = some (.builtin "all") := by decide +kernel
theorem boot_any : bootBuiltins "any" = some (.builtin "any") := by decide +kernel
theorem boot_sum : bootBuiltins "sum" = some (.builtin "sum") := by decide +kernel
/-- a promise that nobody can call upon: for the branch that is never walked -/
def spNo : Sp := fun _ _ _ _ => False
theorem okNo {P : Program} {w : World} {K : PySem.W.Frag} {mg : Str → Option Value} {base : Heap} {CX : CXT} {x : Str} {st : Stmt} {ps : List Str} (D : Df K mg x st)
    (b : ∀ fd f, Fun K x x st f fd → Binds K fd ps []) : Ok P w K mg base CX 0 x ps spNo := by
  obtain ⟨f, fd, hm, F⟩ := D
  exact ⟨f, fd, hm, F.kp, b _ _ F, ⟨fun _ _ _ _ h => h.elim, fun _ _ _ _ _ _ _ _ _ _ _ _ _ h => h.elim⟩, F.lk⟩
theorem pe_ty {X : Cx} {x : Str} {T : String} {pos : Pos} (hm : X.mg x = none) (hv : bootBuiltins x = some (.type T)) (hg : Gl X x := by rfl) (hn : x ≠ "__name__" := by decide) (hd : (x == ("__debug__" : Str)) = false := by decide) :
    PE X (.Name x pos) (tC (.ty T)) := pe_bltn hg hm hv (show RelV (.ty T) (.type T) from rfl) hn hd
/-! ### picks and members -/
theorem Pick.mem {a : Addr} {o : HO} {L R : Lg} (h : Pick a o L R) : (a, o) ∈ L := h.perm.mem_iff.mpr (.head _)
theorem Pick.of_mem {a : Addr} {o : HO} : ∀ {L : Lg}, (a, o) ∈ L → ∃ R, Pick a o L R
  | _ :: L, h => by
    cases h with
    | head => exact ⟨_, .head⟩
    | tail _ h => obtain ⟨R, p⟩ := Pick.of_mem h; exact ⟨_, p.tail⟩
/-- the type's name of a value -/
inductive HasTy (L : Lg) : V → String → Prop where
  | non : HasTy L .non "NoneType"
  | bl (b : Bool) : HasTy L (.bl b) "bool"
  | int (i : Int) : HasTy L (.int i) "int"
  | str (z : Str) : HasTy L (.str z) "str"
  | lst {a : Addr} {xs : List V} : (a, .lst xs) ∈ L → HasTy L (.ref a) "list"
  | tup {a : Addr} {xs : List V} : (a, .tup xs) ∈ L → HasTy L (.ref a) "tuple"
  | dct {a : Addr} {kvs : List (Key × V)} : (a, .dK kvs) ∈ L → HasTy L (.ref a) "dict"
theorem HasTy.mono {L M : Lg} {x : V} {T : String} (h : HasTy L x T) (s : ∀ p ∈ L, p ∈ M) : HasTy M x T := by
  cases h with
  | non => exact .non
  | bl b => exact .bl b
  | int i => exact .int i
  | str z => exact .str z
  | lst m => exact .lst (s _ m)
  | tup m => exact .tup (s _ m)
  | dct m => exact .dct (s _ m)
def tyNames : List String := ["NoneType", "bool", "int", "str", "list", "tuple", "dict"]
theorem HasTy.name {L : Lg} {x : V} {T : String} (h : HasTy L x T) : T ∈ tyNames := by cases h <;> decide +kernel
theorem HasTy.tyx {K : PySem.W.Frag} {L : Lg} {H : Hp} {x : V} {T : String} (h : HasTy L x T) (l : Led H L) : TyX K H x (.type T) := by
  cases h with
  | non => exact .base .non
  | bl b => exact .base (.bl b)
  | int i => exact .base (.int i)
  | str z => exact .base (.str z)
  | lst m => exact .base (.lst (l.has _ m))
  | tup m => exact .base (.tup (l.has _ m))
  | dct m => exact .base (.dK (l.has _ m))
/-- isinstance by the types' names -/
def isB (T C : String) : Bool := T == C || (T == "bool" && C == "int")
theorem kitB_isB {T C : String} (h : T ∈ tyNames) (hc : C ∈ tyNames) : kitB T C = some (isB T C) := by
  have all : (tyNames.all fun T => tyNames.all fun C => decide (kitB T C = some (isB T C))) = true := by decide +kernel
  exact of_decide_eq_true (List.all_eq_true.mp (List.all_eq_true.mp all T h) C hc)
section
variable {L R : Lg} {Q : VK} {K : PySem.W.Frag} {x : V} {T : String}
theorem t_is {C : String} (h : HasTy L x T) (hc : C ∈ tyNames) (k : Tr L fun H => Q (.bl (isB T C)) H) : Tr L fun H => rIs K [x, .ty C] H Q :=
  fun H l => ⟨x, .ty C, _, _, _, rfl, .ty C, h.tyx l, kit_ty (kitB_isB h.name hc), k H l⟩
theorem kitBs_isB {T : String} (h : T ∈ tyNames) : ∀ Cs : List String, (∀ C ∈ Cs, C ∈ tyNames) → kitBs T Cs = some (Cs.any (isB T))
  | [], _ => rfl
  | C :: r, hc => by
    unfold kitBs
    rw [kitB_isB h (hc C (.head _)), List.any_cons]
    cases isB T C with
    | true => rfl
    | false => exact kitBs_isB h r fun D hD => hc D (.tail _ hD)
theorem t_isTs {Cs : List String} {tp : Addr} (hp : Pick tp (.tup (Cs.map V.ty)) L R) (h : HasTy L x T) (hc : ∀ C ∈ Cs, C ∈ tyNames) (k : Tr L fun H => Q (.bl (Cs.any (isB T))) H) : Tr L fun H => rIsT K [x, .ref tp] H Q :=
  fun H l => ⟨x, tp, _, _, _, _, rfl, l.get hp, cls_tys Cs, h.tyx l, kitBs_any (kitBs_isB h.name Cs hc), k H l⟩
end
/-! ### data -/
mutual
inductive Dt (L : Lg) : V → PyData → Prop where
  | non : Dt L .non .none
  | bl (b : Bool) : Dt L (.bl b) (.bool b)
  | int (i : Int) : Dt L (.int i) (.int i)
  | str (z : Str) : Dt L (.str z) (.str z)
  | lst {a : Addr} {xs : List V} {ds : List PyData} : (a, .lst xs) ∈ L → DtAll L xs ds → Dt L (.ref a) (.list ds)
  | tup {a : Addr} {xs : List V} {ds : List PyData} : (a, .tup xs) ∈ L → DtAll L xs ds → Dt L (.ref a) (.tuple ds)
inductive DtAll (L : Lg) : List V → List PyData → Prop where
  | nil : DtAll L [] []
  | cons {x : V} {xs : List V} {d : PyData} {ds : List PyData} : Dt L x d → DtAll L xs ds → DtAll L (x :: xs) (d :: ds)
end
mutual
theorem Dt.mono {L M : Lg} (s : ∀ p ∈ L, p ∈ M) : ∀ {x : V} {d : PyData}, Dt L x d → Dt M x d
  | _, _, .non => .non
  | _, _, .bl b => .bl b
  | _, _, .int i => .int i
  | _, _, .str z => .str z
  | _, _, .lst m h => .lst (s _ m) (DtAll.mono s h)
  | _, _, .tup m h => .tup (s _ m) (DtAll.mono s h)
theorem DtAll.mono {L M : Lg} (s : ∀ p ∈ L, p ∈ M) : ∀ {xs : List V} {ds : List PyData}, DtAll L xs ds → DtAll M xs ds
  | _, _, .nil => .nil
  | _, _, .cons h r => .cons (Dt.mono s h) (DtAll.mono s r)
end
mutual
theorem Dt.dp {K : PySem.W.Frag} {L : Lg} {H : Hp} (l : Led H L) : ∀ {x : V} {d : PyData}, Dt L x d → Dp K H x d
  | _, _, .non => .non
  | _, _, .bl b => .bl b
  | _, _, .int i => .int i
  | _, _, .str z => .str z
  | _, _, .lst m h => .lst (.inl (.inl (l.has _ m))) (DtAll.dp l h)
  | _, _, .tup m h => .tup (.inl (.inl (l.has _ m))) (DtAll.dp l h)
theorem DtAll.dp {K : PySem.W.Frag} {L : Lg} {H : Hp} (l : Led H L) : ∀ {xs : List V} {ds : List PyData}, DtAll L xs ds → DpAll K H xs ds
  | _, _, .nil => .nil
  | _, _, .cons h r => .cons (Dt.dp l h) (DtAll.dp l r)
end
theorem Dt.dpl {K : PySem.W.Frag} {L : Lg} {x : V} {d : PyData} (h : Dt L x d) : DpL K L x d := fun _ l => h.dp l
theorem DtAll.len {L : Lg} : ∀ {xs : List V} {ds : List PyData}, DtAll L xs ds → xs.length = ds.length
  | _, _, .nil => rfl
  | _, _, .cons _ r => by rw [List.length_cons, List.length_cons, r.len]
theorem DtAll.get {L : Lg} : ∀ {xs : List V} {ds : List PyData} {i : Nat} {x : V}, DtAll L xs ds → xs[i]? = some x → ∃ d, ds[i]? = some d ∧ Dt L x d
  | _, _, 0, _, .cons h _, e => by cases e; exact ⟨_, rfl, h⟩
  | _, _, i + 1, _, .cons _ r, e => r.get (i := i) (by simpa using e)
theorem DtAll.ints {L : Lg} : ∀ ns : List Int, DtAll L (ns.map V.int) (ns.map PyData.int)
  | [] => .nil
  | n :: r => .cons (.int n) (DtAll.ints r)
theorem Dt.ints {L : Lg} {a : Addr} {ns : List Int} (h : (a, .lst (ns.map V.int)) ∈ L) : Dt L (.ref a) (.list (ns.map PyData.int)) := .lst h (.ints ns)
theorem Dt.intsT {L : Lg} {a : Addr} {ns : List Int} (h : (a, .tup (ns.map V.int)) ∈ L) : Dt L (.ref a) (.tuple (ns.map PyData.int)) := .tup h (.ints ns)
theorem DtAll.bools {L : Lg} : ∀ bs : List Bool, DtAll L (bs.map V.bl) (bs.map PyData.bool)
  | [] => .nil
  | n :: r => .cons (.bl n) (DtAll.bools r)
mutual
/-- no list of it is longer than a list may be -/
def wide : PyData → Bool
  | .list ds | .tuple ds => decide (ds.length ≤ 100000) && wideAll ds
  | _ => true
def wideAll : List PyData → Bool
  | [] => true
  | d :: r => wide d && wideAll r
end
theorem wideAll_mem : ∀ {ds : List PyData} {d : PyData}, wideAll ds = true → d ∈ ds → wide d = true
  | e :: r, d, h, m => by
    rw [wideAll, Bool.and_eq_true] at h
    rcases List.mem_cons.mp m with rfl | m
    · exact h.1
    · exact wideAll_mem h.2 m
theorem wideAll_ints : ∀ ns : List Int, wideAll (ns.map PyData.int) = true
  | [] => by simp only [List.map_nil, wideAll]
  | n :: r => by simp only [List.map_cons, wideAll, wide, wideAll_ints r, Bool.and_self]
theorem wide_ints {ns : List Int} (h : ns.length ≤ 100000) : wide (.list (ns.map PyData.int)) = true := by
  rw [wide, wideAll_ints, List.length_map, decide_eq_true h]; rfl
theorem wide_intsT {ns : List Int} (h : ns.length ≤ 100000) : wide (.tuple (ns.map PyData.int)) = true := by
  rw [wide, wideAll_ints, List.length_map, decide_eq_true h]; rfl
def dtName : PyData → String
  | .none => "NoneType" | .bool _ => "bool" | .int _ => "int" | .str _ => "str" | .list _ => "list" | .tuple _ => "tuple" | .dict _ => "dict"
theorem Dt.ty {L : Lg} {x : V} {d : PyData} (h : Dt L x d) : HasTy L x (dtName d) := by
  cases h with
  | non => exact .non
  | bl b => exact .bl b
  | int i => exact .int i
  | str z => exact .str z
  | lst m _ => exact .lst m
  | tup m _ => exact .tup m
end Hz
namespace Hz
open PySem PySem.Spec PyProof.Rows L2 RZ
section
variable {L R' : Lg} {σ σ0 : SS} {g : TG} {tt : TT} {te : TE} {vs : List Nat} {Q : VK}
theorem take_more {α : Type} {R : List α} {i : Nat} {v : α} (h : R[i]? = some v) : R.take (i + 1) = R.take i ++ [v] := by
  rw [List.take_add_one, h]; rfl
/-- a comprehension that keeps every item, its elements told by a list -/
def lcMp (L : Lg) (R : List V) (D : Addr) (i : Nat) : Hp → Prop := lcNx (fun _ (_ : Unit) => L) (fun i _ => R.take i) (fun _ _ => True) D i
theorem t_lcMp {D : Addr} {i : Nat} {v : V} {R : List V} {M : Lg} {R2 : Lg} (hp : Pick D (.lst (R.take i)) M R2) (hv : R[i]? = some v) (hz : R.length ≤ sizeLine) (hM : Sub R2 L) : Tr M fun H => lcAdd D (lcMp L R D (i + 1)) v H := by
  refine t_lcAdd () trivial hp ?_ (take_more hv).symm hM
  have := (List.getElem?_eq_some_iff.mp hv).1
  rw [List.length_take]
  omega
theorem t_lcMap {J : It} {n : Nat} {val : Nat → V → Lg → Prop} {Src : Lg → Prop} (wk : Wk J n val Src) (hw : wipe σ vs = σ0) (R : List V) (hR : R.length = n) (hsrc : ∀ x, Src (x :: L))
    (hs : ∀ D i v L', i < n → val i v L' → Tr (L' ++ (D, .lst (R.take i)) :: L) fun H => g v σ0 H fun σ2 H2 => wipe σ2 vs = σ0 ∧ tt σ2 H2 fun b H3 => if b = true then te σ2 H3 (lcAdd D (lcMp L R D (i + 1))) else lcMp L R D (i + 1) H3)
    (hd : ∀ D, Tr ((D, .lst R) :: L) fun H => Q (.ref D) H) : Tr L fun H => lcK g tt te vs σ Q J H :=
  t_lcK wk hw (fun _ (_ : Unit) => L) (fun i _ => R.take i) (fun _ _ => True) ⟨(), trivial, rfl, .refl⟩ (fun D i y _ => hsrc _) (fun D i y v L' hi _ hv => hs D i v L' hi hv) fun D y _ => by
    rw [show R.take n = R from List.take_of_length_le (by omega)]
    exact hd D
theorem InL.cons {a : Addr} {xs : List V} {x : Addr × HO} (h : InL a xs L) : InL a xs (x :: L) := let ⟨_, p⟩ := h; ⟨_, p.tail⟩
theorem InT.cons {a : Addr} {xs : List V} {x : Addr × HO} (h : InT a xs L) : InT a xs (x :: L) := let ⟨_, p⟩ := h; ⟨_, p.tail⟩
theorem InL.of {a : Addr} {xs : List V} (h : (a, .lst xs) ∈ L) : InL a xs L := Pick.of_mem h
theorem InT.of {a : Addr} {xs : List V} (h : (a, .tup xs) ∈ L) : InT a xs L := Pick.of_mem h
/-- a list's text in the ledger is told otherwise -/
theorem Tr.lcast {a : Addr} {xs ys : List V} {G : Hp → Prop} (e : xs = ys) (t : Tr ((a, .lst ys) :: L) G) : Tr ((a, .lst xs) :: L) G := by rw [e]; exact t
end
end Hz
namespace Hz
open PySem PySem.Spec PyProof.Rows L2 RZ
section
variable {K : PySem.W.Frag} {h : Heap} {mg : Str → Option Value}
/-- a def as the head tells it -/
theorem df_mk (X : K.In h) (G : h.Ns mainGlobals mg) {x : Str} {st : Stmt} {f : Addr} {od an : Option Addr} {sl : Array (Option Value)} {oc kV dc pm cd ct : Value}
    (a : PySem.W.nsIn K mainGlobals x = some (some (.ref f))) (l : K.lookup f = some ⟨oc, od, .func (PySem.W.fnOf x x (defArgs st) (defBody st) (defScope st) .none kV dc pm an cd ct), sl⟩)
    (c : PySem.W.codeIn K cd x = true) (k : PySem.W.keepIn K (.ref f) = true) : Df K mg x st := ⟨f, _, PySem.W.mg_of X G a, fun_mk l c k⟩
theorem gv_mk (X : K.In h) (G : h.Ns mainGlobals mg) {x : Str} {v : V} {u : Value} (a : PySem.W.nsIn K mainGlobals x = some (some u)) (r : RelV v u) : GV mg x v := ⟨u, PySem.W.mg_of X G a, r⟩
theorem no_mk (X : K.In h) (G : h.Ns mainGlobals mg) {x : Str} (a : PySem.W.nsIn K mainGlobals x = some none) : mg x = none := PySem.W.mg_none_of X G a
end
end Hz

namespace Hz
open PySem PySem.Spec PyProof.Rows L2 RZ
/-! ### keywords -/
/-- the values by place, if they are m and n -/
def gP {α : Type} (m n : Nat) (is : List Nat) (us ws : List α) : List α := bif us.length == m && ws.length == n then is.filterMap fun i => (us ++ ws)[i]? else []
theorem vals_get {vs : List V} {us : List Value} (r : Vals vs us) : ∀ i : Nat, (∃ v u, vs[i]? = some v ∧ us[i]? = some u ∧ RelV v u) ∨ (vs[i]? = none ∧ us[i]? = none) := by
  induction r with
  | nil => intro i; exact .inr ⟨rfl, rfl⟩
  | cons h _ ih =>
    intro i
    cases i with
    | zero => exact .inl ⟨_, _, rfl, rfl, h⟩
    | succ i => simpa using ih i
theorem gP_rel (m n : Nat) (is : List Nat) {vs : List V} {us : List Value} {zs : List V} {ws : List Value} (r : Vals vs us) (q : Vals zs ws) : Vals (gP m n is vs zs) (gP m n is us ws) := by
  unfold gP
  rw [r.length, q.length]
  cases (us.length == m && ws.length == n) with
  | false => exact .nil
  | true =>
    have a := vals_get (r.append q)
    simp only [cond_true]
    induction is with
    | nil => exact .nil
    | cons i is ih =>
      rw [List.filterMap_cons, List.filterMap_cons]
      rcases a i with ⟨v, u, h1, h2, h3⟩ | ⟨h1, h2⟩
      · rw [h1, h2]; exact .cons h3 ih
      · rw [h1, h2]; exact ih
def tCallGK (sp : Sp) (m n : Nat) (is : List Nat) (E : L2.St → XK) (t tk : TA) : TE := fun σ H Q => t σ H fun vs H1 => tk σ H1 fun zs H2 => sp (gP m n is vs zs) H2 Q (E σ)
section
variable {X : Cx} {CX : CXT} {k : Nat} {ps ks : List Str} {sp : Sp} {E : L2.St → XK} {x : Str} {p pos : Pos} {e : Expr} {es : List Expr} {kws : List Keyword} {t tk : TA} {st : Stmt} {m n : Nat} {is : List Nat}
theorem run_GK {pins : List (Addr × Obj)} {σ : L2.St} {H : Hp} {s : Shared} {Q : VK} {us ws : List Value} {vs zs : List V} {f : Addr} {fd : FuncData} (F : FnG X.prog X.w X.K X.mg X.base CX k f fd ps sp) (hr : RoomG k X.A)
    (hb : (gP m n is us ws).length = ps.length → BindsTo s fd ⟨us, ks.zip ws⟩ (ps.zip (gP m n is us ws))) (hx : PassesAt CX X σ (E σ)) (I : Inv X pins σ H s) (r : Vals vs us) (rz : Vals zs ws) (h : sp (gP m n is vs zs) H Q (E σ)) :
    wpAny (model X.prog X.w) X.A (call (.ref f) us (ks.zip ws)) (EP X pins σ Q) X.xe s := by
  have r2 := gP_rel m n is r rz
  have hl : (gP m n is us ws).length = ps.length := by rw [← r2.length]; exact F.len _ _ _ _ h
  refine wpAny_call (codeAny_mono (F.run X.A X.stack s H ⟨us, ks.zip ws⟩ _ _ Q (E σ) hr I.env0 (hb hl) r2 h) fun r s' hq => ?_)
  match r, hq with
  | .error e, hq => exact hx pins H s e s' I hq
  | .ok (.ret u), hq => exact I.after hq
  | .ok .next, hq => exact hq.elim
  | .ok .brk, hq => exact hq.elim
  | .ok .cont, hq => exact hq.elim
theorem gP_shape {α : Type} {us ws : List α} {k : Nat} (h : (gP m n is us ws).length = k + 1) : us.length = m ∧ ws.length = n := by
  unfold gP at h
  cases e : (us.length == m && ws.length == n) with
  | true =>
    rw [Bool.and_eq_true, beq_iff_eq, beq_iff_eq] at e
    exact e
  | false => rw [e] at h; cases h
/-- f(e, .., a = v, ..) -/
theorem pe_callGK (D : Df X.K X.mg x st) (F : Ok X.prog X.w X.K X.mg X.base CX k x ps sp) (hr : RoomG k X.A) (hx : ∀ σ, PassesAt CX X σ (E σ)) (m n : Nat) (is : List Nat) (ks : List Str) (hps : ∃ k, ps.length = k + 1)
    (hb : ∀ (kV doc pm : Value) (an : Option Addr) (cdv ct : Value) (us ws : List Value), us.length = m → ws.length = n → bindArgs (PySem.W.fnOf x x (defArgs st) (defBody st) (defScope st) .none kV doc pm an cdv ct) ⟨us, ks.zip ws⟩ = pure (ps.zip (gP m n is us ws)))
    (ha : PA X (e :: es) t) (hkw : PK X kws tk) (hg : Gl X x := by rfl) (hall : (backToKw pos (keywordEach kws X.env)).all (·.1.isSome) = true := by rfl) (hks : (backToKw pos (keywordEach kws X.env)).filterMap (·.1) = ks := by rfl)
    (hdb : (x == ("__debug__" : Str)) = false := by decide) (he : starEach (e :: es) X.env = (false, eval e X.env) :: starEach es X.env := by rfl)
    (hpl : ((backTo pos (starEach (e :: es) X.env)).any (·.1) || (backToKw pos (keywordEach kws X.env)).any (·.1.isNone)) = false := by rfl) : PE X (.Call (.Name x p) (e :: es) kws pos) (tCallGK sp m n is E t tk) := by
  obtain ⟨f, fd, hm, hk, _, F, oc, od, osl, lk⟩ := F
  obtain ⟨f', fd', hm', G⟩ := D
  obtain ⟨oc', od', kV, doc, pm, an, cdv, ct, osl', rfl, lk', hcd⟩ := G.ex
  rw [hm] at hm'
  cases hm'
  rw [lk] at lk'
  cases lk'
  refine ⟨fun pins s σ H Q I h => wpAny_Call_Name_kw (ld_glob I hg hm (PySem.W.callWith_KW (h₀ := X.base) I.ok.mod.kin hk hall ?_ hpl he) hdb)⟩
  refine thn (ha.run pos pins s σ H _ I h) fun us s1 ⟨vs, H1, I1, r, q⟩ => ?_
  refine thn (hkw.run pos pins s1 σ H1 _ I1 q) fun ws s2 ⟨zs, H2, I2, rz, q2⟩ => ⟨I2.kIn, ?_⟩
  rw [hks]
  refine run_GK F hr (fun hl => ?_) (hx σ) I2 r rz q2
  obtain ⟨k, ek⟩ := hps
  obtain ⟨h1, h2⟩ := gP_shape (hl.trans ek)
  exact .of_eq (hb kV doc pm an cdv ct us ws h1 h2)
/-- f(a = v, ..) -/
theorem pe_callGK0 (D : Df X.K X.mg x st) (F : Ok X.prog X.w X.K X.mg X.base CX k x ps sp) (hr : RoomG k X.A) (hx : ∀ σ, PassesAt CX X σ (E σ)) (n : Nat) (is : List Nat) (ks : List Str) (hps : ∃ k, ps.length = k + 1)
    (hb : ∀ (kV doc pm : Value) (an : Option Addr) (cdv ct : Value) (us ws : List Value), us.length = 0 → ws.length = n → bindArgs (PySem.W.fnOf x x (defArgs st) (defBody st) (defScope st) .none kV doc pm an cdv ct) ⟨us, ks.zip ws⟩ = pure (ps.zip (gP 0 n is us ws)))
    (hkw : PK X kws tk) (hg : Gl X x := by rfl) (hall : (backToKw pos (keywordEach kws X.env)).all (·.1.isSome) = true := by rfl) (hks : (backToKw pos (keywordEach kws X.env)).filterMap (·.1) = ks := by rfl)
    (hdb : (x == ("__debug__" : Str)) = false := by decide)
    (hpl : ((backTo pos (starEach [] X.env)).any (·.1) || (backToKw pos (keywordEach kws X.env)).any (·.1.isNone)) = false := by rfl) : PE X (.Call (.Name x p) [] kws pos) (tCallGK sp 0 n is E tNil tk) := by
  obtain ⟨f, fd, hm, hk, _, F, oc, od, osl, lk⟩ := F
  obtain ⟨f', fd', hm', G⟩ := D
  obtain ⟨oc', od', kV, doc, pm, an, cdv, ct, osl', rfl, lk', hcd⟩ := G.ex
  rw [hm] at hm'
  cases hm'
  rw [lk] at lk'
  cases lk'
  refine ⟨fun pins s σ H Q I h => wpAny_Call_Name_kw (ld_glob I hg hm (PySem.W.callWith_KW0 (h₀ := X.base) I.ok.mod.kin hk hall ?_ hpl) hdb)⟩
  refine thn (hkw.run pos pins s σ H _ I h) fun ws s2 ⟨zs, H2, I2, rz, q2⟩ => ⟨I2.kIn, ?_⟩
  rw [hks]
  refine run_GK (us := []) F hr (fun hl => ?_) (hx σ) I2 .nil rz q2
  obtain ⟨k, ek⟩ := hps
  obtain ⟨h1, h2⟩ := gP_shape (hl.trans ek)
  exact .of_eq (hb kV doc pm an cdv ct [] ws h1 h2)
end
section
variable {L : Lg} {σ : SS} {Q : VK} {t tk : TA} {sp : Sp} {E : SS → XK} {m n : Nat} {is : List Nat}
theorem t_callGK (k : Tr L fun H => t σ H fun vs H1 => tk σ H1 fun zs H2 => sp (gP m n is vs zs) H2 Q (E σ)) : Tr L fun H => tCallGK sp m n is E t tk σ H Q := k
end
end Hz

/-! Hz, part O: lists of ints, their texts; numbers' sizes. -/
namespace Hz
open PySem PySem.Spec PyProof.Rows L2 RZ
/-! ### sizes -/
theorem bits_le {i : Int} {N : Nat} (h0 : 1 ≤ N) (h : i.natAbs < 2 ^ N) : Builtin.Int.intBits i ≤ N := by
  have := PySem.Flt.log2_lt_of h0 h
  unfold Builtin.Int.intBits
  split <;> omega
theorem natAbs_lt {i : Int} {b : Nat} (h1 : -(b : Int) < i) (h2 : i < b) : i.natAbs < b := by omega
theorem pow_ok {i j : Int} (N : Nat) (h0 : 1 ≤ N) (h1 : i.natAbs < 2 ^ N) (h2 : 0 ≤ j) (h3 : (N : Int) * j ≤ 134217728) : cPow i j := by
  refine ⟨h2, ?_⟩
  have h := bits_le h0 h1
  have h4 : (Builtin.Int.intBits i : Int) * j ≤ (N : Int) * j := Int.mul_le_mul_of_nonneg_right (by omega) h2
  have e : (2 : Int) ^ 27 = 134217728 := by decide
  rw [e]; omega
theorem mul_ok {i j : Int} (M N : Nat) (h0 : 1 ≤ M) (h1 : 1 ≤ N) (hi : i.natAbs < 2 ^ M) (hj : j.natAbs < 2 ^ N) (h : M + N ≤ 1000000) : cMul i j := .inr (.inr (wide_mul hi hj h0 h1 h))
theorem div_ok {i j : Int} (N : Nat) (h0 : 1 ≤ N) (h1 : 0 < j) (h2 : j.natAbs < 2 ^ N) (h : N ≤ 9000) : CDivW i j := wide_div h1 h2 h0 h
/-! ### lists of ints by place -/
theorem at_mem {ns : List Int} {i : Int} (h0 : 0 ≤ i) (h1 : i < ns.length) : ∃ n, atI (ns.map V.int) i = some (.int n) ∧ n ∈ ns ∧ ns[i.toNat]? = some n := by
  obtain ⟨j, rfl⟩ : ∃ j : Nat, i = (j : Int) := ⟨i.toNat, by omega⟩
  have hl : j < ns.length := by omega
  refine ⟨ns[j], atI_nat ?_, List.getElem_mem hl, by rw [Int.toNat_natCast, List.getElem?_eq_getElem hl]⟩
  rw [List.getElem?_map, List.getElem?_eq_getElem hl]; rfl
theorem at_int {ns : List Int} {i : Nat} {n : Int} (h : ns[i]? = some n) : atI (ns.map V.int) (i : Int) = some (.int n) := atI_nat (get_mapI h)
where get_mapI {ns : List Int} {i : Nat} {n : Int} (h : ns[i]? = some n) : (ns.map V.int)[i]? = some (.int n) := by rw [List.getElem?_map, h]; rfl
theorem at_lastI (ns : List Int) (n : Int) : atI ((ns ++ [n]).map V.int) (-1) = some (.int n) := by
  rw [List.map_append]; exact atI_last _ _
/-! ### chains -/
def chainI : Int → List Int → Prop
  | _, [] => True
  | b, d :: r => 0 ≤ d ∧ d ≤ b + 1 ∧ chainI d r
def lastD (b : Int) : List Int → Int
  | [] => b
  | d :: r => lastD d r
theorem chainI_append : ∀ (b : Int) (xs ys : List Int), chainI b (xs ++ ys) ↔ chainI b xs ∧ chainI (lastD b xs) ys
  | b, [], ys => by simp [chainI, lastD]
  | b, d :: r, ys => by
    show (0 ≤ d ∧ d ≤ b + 1 ∧ chainI d (r ++ ys)) ↔ (0 ≤ d ∧ d ≤ b + 1 ∧ chainI d r) ∧ chainI (lastD d r) ys
    rw [chainI_append d r ys]
    constructor
    · rintro ⟨h1, h2, h3, h4⟩; exact ⟨⟨h1, h2, h3⟩, h4⟩
    · rintro ⟨⟨h1, h2, h3⟩, h4⟩; exact ⟨h1, h2, h3, h4⟩
theorem lastD_append : ∀ (b : Int) (xs : List Int) (d : Int), lastD b (xs ++ [d]) = d
  | _, [], _ => rfl
  | _, e :: r, d => lastD_append e r d
theorem chainI_bounds : ∀ (b : Int) (xs : List Int), chainI b xs → ∀ (i : Nat) (d : Int), xs[i]? = some d → 0 ≤ d ∧ d ≤ b + 1 + i
  | b, e :: r, h, 0, d, q => by
    cases q
    exact ⟨h.1, by have := h.2.1; omega⟩
  | b, e :: r, h, i + 1, d, q => by
    have := chainI_bounds e r h.2.2 i d (by simpa using q)
    have := h.2.1
    omega
theorem chainI_take : ∀ (b : Int) (xs : List Int) (n : Nat), chainI b xs → chainI b (xs.take n)
  | _, [], n, _ => by rw [List.take_nil]; trivial
  | _, _ :: _, 0, _ => trivial
  | _, d :: r, n + 1, h => ⟨h.1, h.2.1, chainI_take d r n h.2.2⟩
/-! ### the text of a list of ints -/
def reprI (ns : List Int) : Str := (PyData.list (ns.map PyData.int)).shown
theorem shownAll_map (ns : List Int) : PyData.shownAll (ns.map PyData.int) = ns.map fun n => (toString n : Str) := by
  induction ns with
  | nil => simp only [List.map_nil, PyData.shownAll]
  | cons n r ih => simp only [List.map_cons, PyData.shownAll, PyData.shown, ih]
theorem showableAll_map {ns : List Int} (h : ∀ n ∈ ns, n.natAbs < 2 ^ 1000) : PyData.showableAll (ns.map PyData.int) = true := by
  induction ns with
  | nil => simp only [List.map_nil, PyData.showableAll]
  | cons n r ih =>
    have := PySem.Flt.log2_lt_of (by decide : 0 < 1000) (h n (.head _))
    simp only [List.map_cons, PyData.showableAll, PyData.showable, ih fun m hm => h m (.tail _ hm), Bool.and_true, decide_eq_true_eq]
    omega
theorem int_len {n : Int} (h : n.natAbs < 2 ^ 1000) : ((toString n : Str)).length ≤ 1001 := by
  rw [PySem.ofString_length]
  exact int_text_length_le (by decide) (PySem.Flt.log2_lt_of (by decide : 0 < 1000) h)
theorem sum_le_len : ∀ (l : List Nat) (k : Nat), (∀ x ∈ l, x ≤ k) → l.sum ≤ l.length * k
  | [], _, _ => by simp
  | x :: r, k, h => by
    have h1 := sum_le_len r k fun y hy => h y (.tail _ hy)
    have h2 := h x (.head _)
    rw [List.sum_cons, List.length_cons, Nat.add_mul]
    omega
theorem reprI_len {ns : List Int} (h : ∀ n ∈ ns, n.natAbs < 2 ^ 1000) (hl : ns.length ≤ 16000) : (reprI ns).length ≤ sizeLine := by
  have h1 := listText_len_le (PyData.shownAll (ns.map PyData.int))
  have h2 : ((PyData.shownAll (ns.map PyData.int)).map (·.length)).sum ≤ ns.length * 1001 := by
    rw [shownAll_map, List.map_map]
    have := sum_le_len (ns.map ((fun x : Str => x.length) ∘ fun n : Int => (toString n : Str))) 1001 (fun x hx => by
      obtain ⟨n, hn, rfl⟩ := List.mem_map.mp hx
      exact int_len (h n hn))
    rwa [List.length_map] at this
  have h3 : (PyData.shownAll (ns.map PyData.int)).length = ns.length := by rw [shownAll_map, List.length_map]
  unfold reprI
  rw [PyData.shown, sizeLine_eq]
  omega
theorem depthAll_ints : ∀ ns : List Int, PyData.depthAll (ns.map PyData.int) = 0
  | [] => by simp only [List.map_nil, PyData.depthAll]
  | n :: r => by simp only [List.map_cons, PyData.depthAll, PyData.depth, depthAll_ints r, Nat.max_self]
theorem t_reprI {K : PySem.W.Frag} {L : Lg} {Q : VK} {a : Addr} {ns : List Int} (hm : (a, .lst (ns.map V.int)) ∈ L) (h : ∀ n ∈ ns, n.natAbs < 2 ^ 1000) (hl : ns.length ≤ 16000)
    (k : Tr L fun H => Q (.str (reprI ns)) H) : Tr L fun H => rRepr K [.ref a] H Q :=
  t_repr (Dt.ints hm).dpl (by simp only [PyData.showable]; exact showableAll_map h) (by simp only [PyData.depth, depthAll_ints]; decide) (reprI_len h hl) k
/-- == of two lists of ints -/
theorem eqv_ints : ∀ (xs ys : List Int), PyData.eqv (.list (xs.map PyData.int)) (.list (ys.map PyData.int)) = decide (xs = ys) := by
  have all : ∀ (xs ys : List Int), PyData.eqvAll (xs.map PyData.int) (ys.map PyData.int) = decide (xs = ys) := by
    intro xs
    induction xs with
    | nil => intro ys; cases ys <;> simp [PyData.eqvAll]
    | cons x r ih =>
      intro ys
      cases ys with
      | nil => simp [PyData.eqvAll]
      | cons y s => simp only [List.map_cons, PyData.eqvAll, PyData.eqv, ih, List.cons.injEq, Bool.decide_and]; rfl
  intro xs ys
  simp only [PyData.eqv, all]
theorem shaped_ints (ns : List Int) : SeqAt.shaped (.list (ns.map PyData.int)) = true := by
  have c : ∀ ns : List Int, PyData.canLayAll0 (ns.map PyData.int) = true := by
    intro ns
    induction ns with
    | nil => simp [PyData.canLayAll0]
    | cons n r ih => simp [PyData.canLayAll0, PyData.canLay0, ih]
  unfold SeqAt.shaped
  simp [PyData.canLay0, c, PyData.depth, depthAll_ints]
theorem t_eqInts {K : PySem.W.Frag} {L : Lg} {Q : VK} {a b : Addr} {xs ys : List Int} (ha : (a, .lst (xs.map V.int)) ∈ L) (hb : (b, .lst (ys.map V.int)) ∈ L) (k : Tr L fun H => Q (.bl (decide (xs = ys))) H) : Tr L fun H => rEqD K (.ref a) (.ref b) H Q :=
  t_eqD (Dt.ints ha).dpl (Dt.ints hb).dpl (shaped_ints xs) (shaped_ints ys) (by rw [eqv_ints]; exact k)
end Hz
namespace Hz
open PySem PySem.Spec PyProof.Rows L2 RZ
theorem at_lastD {ns : List Int} (b : Int) (h : 1 ≤ ns.length) : atI (ns.map V.int) (-1) = some (.int (lastD b ns)) := by
  obtain ⟨l, x, rfl⟩ : ∃ l x, ns = l ++ [x] := ⟨ns.dropLast, ns.getLast (by intro e; subst e; simp at h), (List.dropLast_concat_getLast _).symm⟩
  rw [lastD_append]
  exact at_lastI l x
theorem lastD_bound : ∀ (b : Int) (ns : List Int), chainI b ns → 1 ≤ ns.length → 0 ≤ lastD b ns ∧ lastD b ns ≤ b + ns.length
  | b, [], _, h => by simp at h
  | b, [d], h, _ => by
    have := h.1; have := h.2.1
    show 0 ≤ d ∧ d ≤ b + ((1 : Nat) : Int)
    omega
  | b, d :: e :: r, h, _ => by
    have ih := lastD_bound d (e :: r) h.2.2 (by simp)
    have := h.2.1
    show 0 ≤ lastD d (e :: r) ∧ lastD d (e :: r) ≤ b + (((e :: r).length + 1 : Nat) : Int)
    omega
theorem map_snoc (ns : List Int) (n : Int) : ns.map V.int ++ [V.int n] = (ns ++ [n]).map V.int := by rw [List.map_append]; rfl
end Hz
namespace Hz
open PySem PySem.Spec PyProof.Rows L2 RZ
theorem depthAll_le : ∀ {ds : List PyData} {d : PyData}, d ∈ ds → d.depth ≤ PyData.depthAll ds
  | e :: r, d, h => by
    rw [PyData.depthAll]
    rcases List.mem_cons.mp h with rfl | h
    · exact Nat.le_max_left _ _
    · exact Nat.le_trans (depthAll_le h) (Nat.le_max_right _ _)
end Hz
namespace Hz
open PySem PySem.Spec PyProof.Rows L2
/-- a, a + 1, .. below b -/
def rgI (a b : Int) : List Int := (List.range (b - a).toNat).map fun i => a + (i : Nat)
theorem rgV_ints (a b : Int) : rgV a b = (rgI a b).map V.int := by unfold rgV rgI; rw [List.map_map]; rfl
theorem rgI_len (a b : Int) : (rgI a b).length = (b - a).toNat := by unfold rgI; rw [List.length_map, List.length_range]
theorem rgI_get {a b : Int} {i : Nat} (h : i < (b - a).toNat) : (rgI a b)[i]? = some (a + i) := by
  unfold rgI
  rw [List.getElem?_map, List.getElem?_range h]; rfl
theorem rep_ints (k : Nat) (n : Int) : (List.replicate k [V.int n]).flatten = (List.replicate k n).map V.int := by
  induction k with
  | zero => rfl
  | succ k ih => rw [List.replicate_succ, List.flatten_cons, ih, List.replicate_succ, List.map_cons]; rfl
end Hz
namespace Hz
open PySem PySem.Spec PyProof.Rows L2 RZ
theorem last_get {ns : List Int} (b : Int) (h : 1 ≤ ns.length) : (ns.map V.int)[(ns.map V.int).length - 1]? = some (.int (lastD b ns)) := by
  obtain ⟨l, x, rfl⟩ : ∃ l x, ns = l ++ [x] := ⟨ns.dropLast, ns.getLast (by intro e; subst e; simp at h), (List.dropLast_concat_getLast _).symm⟩
  rw [lastD_append]
  simp
/-- xs.pop() of ints -/
theorem t_popI {L R : Lg} {Q : VK} {p : Addr} {ns : List Int} (hp : Pick p (.lst (ns.map V.int)) L R) (h : 1 ≤ ns.length) (k : Tr ((p, .lst (ns.dropLast.map V.int)) :: R) fun H => Q (.int (lastD (-1) ns)) H) : Tr L fun H => rPop (.ref p) [] H Q :=
  t_popM hp (last_get (-1) h) (Tr.lcast List.map_dropLast.symm k)
/-- xs.append(n) of ints -/
theorem t_appI {L R : Lg} {Q : VK} {p : Addr} {ns : List Int} {n : Int} (hp : Pick p (.lst (ns.map V.int)) L R) (h : ns.length < sizeLine) (k : Tr ((p, .lst ((ns ++ [n]).map V.int)) :: R) fun H => Q .non H) : Tr L fun H => rAppend (.ref p) [.int n] H Q :=
  t_append hp (by rw [List.length_map]; exact h) (Tr.lcast (map_snoc ns n) k)
end Hz
namespace Hz
open PySem PySem.Spec PyProof.Rows L2 RZ
/-! ### the law's own list, read -/
/-- wherever the ledger stands, the law's list is at a -/
def Scr (K : PySem.W.Frag) (L : Lg) (a : Addr) (ns : List Int) : Prop := ∀ H, Led H L → ScrL K H a (ns.map V.int)
theorem Scr.mono {K : PySem.W.Frag} {L M : Lg} {a : Addr} {ns : List Int} (h : Scr K L a ns) (s : ∀ {H}, Led H M → Led H L) : Scr K M a ns := fun H l => h H (s l)
theorem Scr.cons {K : PySem.W.Frag} {L : Lg} {x : Addr × HO} {a : Addr} {ns : List Int} (h : Scr K L a ns) : Scr K (x :: L) a ns := h.mono Led.tail
theorem scr_start {K : PySem.W.Frag} {H : Hp} {a : Addr} {ns : List Int} (h : ScrL K H a (ns.map V.int)) : ∃ L, Led H L ∧ Scr K L a ns := by
  obtain ⟨its, r, z, h | h⟩ := h
  · refine ⟨[(a, .frz { cls := .type "list", data := .seq its.toArray } (.lst (ns.map V.int)))], ⟨fun p hp => ?_, by simp⟩, fun H l => ⟨its, r, z, .inl (l.has _ (.head _))⟩⟩
    rw [List.mem_singleton.mp hp]
    exact h
  · exact ⟨[], .nil, fun H _ => ⟨its, r, z, .inr h⟩⟩
section
variable {L R : Lg} {Q : VK} {K : PySem.W.Frag} {a b : Addr} {ns : List Int} {ys : List V}
theorem t_lenSc (h : Scr K L a ns) (k : Tr L fun H => Q (.int ns.length) H) : Tr L fun H => rLen K [.ref a] H Q := fun H l => ⟨_, _, rfl, .inl ⟨_, (h H l).sq, by rw [List.length_map]⟩, k H l⟩
theorem t_catSc (h : Scr K L a ns) (hp : Pick b (.lst ys) L R) (hz : ns.length + ys.length ≤ sizeLine) (k : ∀ p, Tr ((p, .lst (ns.map V.int ++ ys)) :: L) fun H => Q (.ref p) H) : Tr L fun H => rCatS K (.ref a) (.ref b) H Q :=
  fun H l => ⟨a, b, _, ys, rfl, rfl, h H l, l.get hp, by rw [List.length_map]; exact hz, fun p hp' => k p _ (l.new hp')⟩
theorem t_slSc {lo hi : Option Int} (h : Scr K L a ns) (k : ∀ p, Tr ((p, .lst (cutV (ns.map V.int) lo hi)) :: L) fun H => Q (.ref p) H) : Tr L fun H => rSlL K (.ref a) lo hi H Q := fun H l => ⟨a, _, rfl, (h H l).sq, fun p hp' => k p _ (l.new hp')⟩
theorem t_ixSc {m : Int} {v : V} (h : Scr K L a ns) (ha : atI (ns.map V.int) m = some v) (k : Tr L fun H => Q v H) : Tr L fun H => rIxL K (.ref a) (.int m) H Q := fun H l => ⟨a, _, m, v, rfl, rfl, (h H l).sq, ha, k H l⟩
theorem dpl_sc (h : Scr K L a ns) : DpL K L (.ref a) (.list (ns.map PyData.int)) := fun H l => .lst (h H l).sq (dpAll_ints ns)
/-- script == [] -/
theorem t_eqSc {zs : List Int} (h : Scr K L a ns) (hb : (b, .lst (zs.map V.int)) ∈ L) (k : Tr L fun H => Q (.bl (decide (ns = zs))) H) : Tr L fun H => rEqD K (.ref a) (.ref b) H Q :=
  t_eqD (dpl_sc h) (Dt.ints hb).dpl (shaped_ints ns) (shaped_ints zs) (by rw [eqv_ints]; exact k)
theorem t_neSc {zs : List Int} (h : Scr K L a ns) (hb : (b, .lst (zs.map V.int)) ∈ L) (k : Tr L fun H => Q (.bl (!decide (ns = zs))) H) : Tr L fun H => rNeD K (.ref a) (.ref b) H Q :=
  t_neD (dpl_sc h) (Dt.ints hb).dpl (shaped_ints ns) (shaped_ints zs) (by rw [eqv_ints]; exact k)
end
/-- a slice of ints -/
def cutI (ns : List Int) (lo hi : Option Int) : List Int := (ns.drop (HT.sIx ns.length 0 lo)).take (HT.sIx ns.length ns.length hi - HT.sIx ns.length 0 lo)
theorem cut_ints (ns : List Int) (lo hi : Option Int) : cutV (ns.map V.int) lo hi = (cutI ns lo hi).map V.int := by
  unfold cutV cutI
  rw [List.length_map, List.map_take, List.map_drop]
theorem cutI_len (ns : List Int) (lo hi : Option Int) : (cutI ns lo hi).length ≤ ns.length := by
  unfold cutI
  rw [List.length_take, List.length_drop]; omega
theorem cutI_mem {ns : List Int} {lo hi : Option Int} {n : Int} (h : n ∈ cutI ns lo hi) : n ∈ ns := List.mem_of_mem_drop (List.mem_of_mem_take h)
end Hz

/-! Hz, part F: ints by place; filtered comprehensions; members; a list's places. -/
namespace Hz
open PySem PySem.Spec PyProof.Rows L2 RZ
/-! ### ints by place -/
/-- the i-th of ns -/
def atD (ns : List Int) (i : Int) : Int := ns.getD i.toNat 0
theorem atD_get {ns : List Int} {i : Int} (h0 : 0 ≤ i) (h1 : i < ns.length) : ns[i.toNat]? = some (atD ns i) := by
  unfold atD
  rw [List.getD_eq_getElem?_getD, List.getElem?_eq_getElem (by omega : i.toNat < ns.length)]; rfl
theorem atD_nat {ns : List Int} {i : Nat} {d : Int} (h : ns[i]? = some d) : atD ns (i : Int) = d := by
  unfold atD
  rw [Int.toNat_natCast, List.getD_eq_getElem?_getD, h]; rfl
theorem atD_at {ns : List Int} {i : Int} (h0 : 0 ≤ i) (h1 : i < ns.length) : atI (ns.map V.int) i = some (.int (atD ns i)) := by
  have h := atI_nat (α := V) (xs := ns.map V.int) (j := i.toNat) (v := .int (atD ns i)) (by rw [List.getElem?_map, atD_get h0 h1]; rfl)
  rwa [Int.toNat_of_nonneg h0] at h
theorem map_erase {α β : Type} {f : α → β} : ∀ (ns : List α) (k : Nat), (ns.eraseIdx k).map f = (ns.map f).eraseIdx k
  | [], _ => rfl
  | _ :: _, 0 => rfl
  | n :: r, k + 1 => by
    show f n :: (r.eraseIdx k).map f = f n :: (r.map f).eraseIdx k
    rw [map_erase r k]
theorem atD_mem {ns : List Int} {i : Int} (h0 : 0 ≤ i) (h1 : i < ns.length) : atD ns i ∈ ns := List.mem_of_getElem? (atD_get h0 h1)
section
variable {L R R' : Lg} {σ σ0 : SS} {Q : VK} {K : PySem.W.Frag} {a b p : Addr} {ns ms : List Int} {m n : Int}
theorem t_ixI (hp : Pick p (.lst (ns.map V.int)) L R) (h0 : 0 ≤ m) (h1 : m < ns.length) (k : Tr L fun H => Q (.int (atD ns m)) H) : Tr L fun H => rIxL K (.ref p) (.int m) H Q := t_ixL hp (atD_at h0 h1) k
theorem t_lenI (hp : Pick p (.lst (ns.map V.int)) L R) (k : Tr L fun H => Q (.int ns.length) H) : Tr L fun H => rLen K [.ref p] H Q := t_lenL hp (by rw [List.length_map]; exact k)
theorem t_slI {lo hi : Option Int} (hp : Pick a (.lst (ns.map V.int)) L R) (k : ∀ p, Tr ((p, .lst ((cutI ns lo hi).map V.int)) :: L) fun H => Q (.ref p) H) : Tr L fun H => rSlL K (.ref a) lo hi H Q := t_slL hp fun p => Tr.lcast (cut_ints ns lo hi) (k p)
theorem t_catI (hp : Pick a (.lst (ns.map V.int)) L R) (hq : Pick b (.lst (ms.map V.int)) L R') (hz : ns.length + ms.length ≤ sizeLine) (k : ∀ p, Tr ((p, .lst ((ns ++ ms).map V.int)) :: L) fun H => Q (.ref p) H) : Tr L fun H => rCat (.ref a) (.ref b) H Q :=
  t_cat hp hq (by rw [List.length_map, List.length_map]; exact hz) fun p => Tr.lcast List.map_append.symm (k p)
theorem t_revI (hp : Pick a (.lst (ns.map V.int)) L R) (k : ∀ p, Tr ((p, .lst (ns.reverse.map V.int)) :: L) fun H => Q (.ref p) H) : Tr L fun H => newRev K (.ref a) H Q := t_newRev hp fun p => Tr.lcast List.map_reverse.symm (k p)
theorem t_rgI {m n : Int} (h : RgOk m n) (k : ∀ p, Tr ((p, .lst ((rgI m n).map V.int)) :: L) fun H => Q (.ref p) H) : Tr L fun H => newRg m n H Q := t_newRg h fun p => Tr.lcast (rgV_ints m n) (k p)
theorem t_listI (hp : Pick a (.lst (ns.map V.int)) L R) (k : ∀ p, Tr ((p, .lst (ns.map V.int)) :: L) fun H => Q (.ref p) H) : Tr L fun H => rList K [.ref a] H Q := t_listL hp k
/-- a new list of ints, item by item -/
theorem t_newI (ns : List Int) (hz : ns.length ≤ sizeLine) (k : ∀ p, Tr ((p, .lst (ns.map V.int)) :: L) fun H => Q (.ref p) H) : Tr L fun H => newL (ns.map V.int) H Q := t_newL (by rw [List.length_map]; exact hz) k
theorem t_setI {i : Int} {v : Int} {G : Hp → Prop} (hp : Pick p (.lst (ns.map V.int)) L R) (h0 : 0 ≤ i) (h1 : i < ns.length) (k : Tr ((p, .lst ((ns.set i.toNat v).map V.int)) :: R) G) : Tr L fun H => rSetL (.ref p) (.int i) (.int v) H G :=
  t_setL (j := i.toNat) hp (by unfold ixN; rw [List.length_map]; first | rfl | (split <;> simp_all <;> omega)) (Tr.lcast List.map_set.symm k)
/-- n in xs, ints -/
theorem inV_ints (n : Int) : ∀ ns : List Int, inV (.int n) (ns.map V.int) = decide (n ∈ ns)
  | [] => rfl
  | m :: r => by
    have ih := inV_ints n r
    unfold inV at ih ⊢
    rw [List.map_cons, List.any_cons, ih]
    have e : eqV (.int m) (.int n) = decide (n = m) := by
      unfold eqV
      rw [Bool.eq_iff_iff, decide_eq_true_eq, beq_iff_eq]; exact eq_comm
    rw [e, ← Bool.decide_or]
    congr 1
    simp
theorem flat_ints (ns : List Int) : (ns.map V.int).all flatV = true := by
  induction ns with
  | nil => rfl
  | cons n r ih => rw [List.map_cons, List.all_cons, ih]; rfl
theorem t_inI (hp : Pick p (.lst (ns.map V.int)) L R) (k : Tr L fun H => Q (.bl (decide (n ∈ ns))) H) : Tr L fun H => rIn K false (.int n) (.ref p) H Q :=
  fun H l => ⟨p, _, rfl, .inl (sqL hp l), rfl, flat_ints ns, by rw [inV_ints]; exact k H l⟩
theorem t_notInI (hp : Pick p (.lst (ns.map V.int)) L R) (k : Tr L fun H => Q (.bl (!decide (n ∈ ns))) H) : Tr L fun H => rIn K true (.int n) (.ref p) H Q :=
  fun H l => ⟨p, _, rfl, .inl (sqL hp l), rfl, flat_ints ns, by rw [inV_ints]; exact k H l⟩
theorem t_neInts {xs ys : List Int} (ha : (a, .lst (xs.map V.int)) ∈ L) (hb : (b, .lst (ys.map V.int)) ∈ L) (k : Tr L fun H => Q (.bl (!decide (xs = ys))) H) : Tr L fun H => rNeD K (.ref a) (.ref b) H Q :=
  t_neD (Dt.ints ha).dpl (Dt.ints hb).dpl (shaped_ints xs) (shaped_ints ys) (by rw [eqv_ints]; exact k)
/-- tuples of ints -/
theorem eqv_intsT (xs ys : List Int) : PyData.eqv (.tuple (xs.map PyData.int)) (.tuple (ys.map PyData.int)) = decide (xs = ys) := by
  have h := eqv_ints xs ys
  simp only [PyData.eqv] at h ⊢
  exact h
theorem shaped_intsT (ns : List Int) : SeqAt.shaped (.tuple (ns.map PyData.int)) = true := by
  have c : ∀ ns : List Int, PyData.canLayAll0 (ns.map PyData.int) = true := by
    intro ns
    induction ns with
    | nil => simp [PyData.canLayAll0]
    | cons n r ih => simp [PyData.canLayAll0, PyData.canLay0, ih]
  unfold SeqAt.shaped
  simp [PyData.canLay0, c, PyData.depth, depthAll_ints]
theorem t_eqIntsT {xs ys : List Int} (ha : (a, .tup (xs.map V.int)) ∈ L) (hb : (b, .tup (ys.map V.int)) ∈ L) (k : Tr L fun H => Q (.bl (decide (xs = ys))) H) : Tr L fun H => rEqD K (.ref a) (.ref b) H Q :=
  t_eqD (Dt.intsT ha).dpl (Dt.intsT hb).dpl (shaped_intsT xs) (shaped_intsT ys) (by rw [eqv_intsT]; exact k)
theorem t_neIntsT {xs ys : List Int} (ha : (a, .tup (xs.map V.int)) ∈ L) (hb : (b, .tup (ys.map V.int)) ∈ L) (k : Tr L fun H => Q (.bl (!decide (xs = ys))) H) : Tr L fun H => rNeD K (.ref a) (.ref b) H Q :=
  t_neD (Dt.intsT ha).dpl (Dt.intsT hb).dpl (shaped_intsT xs) (shaped_intsT ys) (by rw [eqv_intsT]; exact k)
/-- xs.insert(i, y) -/
def rInsert : V → List V → Hp → VK → Prop := fun x vs H Q => ∃ (l : Addr) (xs : List V) (i : Int) (y : V), x = .ref l ∧ vs = [.int i, y] ∧ H l = some (.lst xs) ∧ xs.length < sizeLine ∧ 0 ≤ i ∧ i < 2 ^ 63 ∧
    Q .non (upd H l (.lst (xs.take i.toNat ++ [y] ++ xs.drop i.toNat)))
theorem mt_ins {X : Cx} : MtR X "list.insert" rInsert := mt_insert
theorem t_insI {i v : Int} (hp : Pick p (.lst (ns.map V.int)) L R) (hz : ns.length < sizeLine) (h0 : 0 ≤ i) (h1 : i < 2 ^ 63) (k : Tr ((p, .lst ((ns.take i.toNat ++ [v] ++ ns.drop i.toNat).map V.int)) :: R) fun H => Q .non H) : Tr L fun H => rInsert (.ref p) [.int i, .int v] H Q :=
  fun H l => ⟨p, _, i, _, rfl, rfl, l.get hp, by rw [List.length_map]; exact hz, h0, h1, by
    have := k _ (l.pick hp).put
    rw [List.map_append, List.map_append, List.map_take, List.map_drop] at this
    exact this⟩
theorem t_popAtI {i : Int} (hp : Pick p (.lst (ns.map V.int)) L R) (h0 : 0 ≤ i) (h1 : i < ns.length) (h2 : ns.length ≤ sizeLine) (k : Tr ((p, .lst ((ns.eraseIdx i.toNat).map V.int)) :: R) fun H => Q (.int (atD ns i)) H) : Tr L fun H => rPopAt (.ref p) [.int i] H Q :=
  fun H l => ⟨p, _, i, i.toNat, .int (atD ns i), rfl, rfl, l.get hp, by omega, by rw [sizeLine_eq] at h2; omega, by
    unfold seqIndex?
    rw [List.length_map]
    simp only [show ¬ i < 0 by omega, if_false]
    rw [if_pos (by simp; omega)], by rw [List.getElem?_map, atD_get h0 h1]; rfl, by
    have := k _ (l.pick hp).put
    rwa [map_erase] at this⟩
end
section
variable {L : Lg} {G1 G2 : Hp → Prop} {c : Prop} [Decidable c]
theorem t_ifDT (h : c) (k : Tr L G1) : Tr L fun H => if decide c = true then G1 H else G2 H := t_ifT (decide_eq_true h) k
theorem t_ifDF (h : ¬ c) (k : Tr L G2) : Tr L fun H => if decide c = true then G1 H else G2 H := t_ifF (decide_eq_false h) k
theorem t_ifNT (h : ¬ c) (k : Tr L G1) : Tr L fun H => if (!decide c) = true then G1 H else G2 H := t_ifT (by rw [decide_eq_false h]; rfl) k
theorem t_ifNF (h : c) (k : Tr L G2) : Tr L fun H => if (!decide c) = true then G1 H else G2 H := t_ifF (by rw [decide_eq_true h]; rfl) k
theorem t_ifR {α : Type} [DecidableEq α] {x : α} (k : Tr L G1) : Tr L fun H => if decide (x = x) = true then G1 H else G2 H := t_ifDT rfl k
theorem t_ifNR {α : Type} [DecidableEq α] {x : α} (k : Tr L G2) : Tr L fun H => if (!decide (x = x)) = true then G1 H else G2 H := t_ifNF rfl k
end
theorem cutI_from {ns : List Int} {i : Int} (h0 : 0 ≤ i) (h1 : i ≤ ns.length) : cutI ns (some i) none = ns.drop i.toNat := by
  unfold cutI
  have e : HT.sIx ns.length 0 (some i) = i.toNat := by
    show (if i < 0 then _ else min i.toNat ns.length) = i.toNat
    rw [if_neg (by omega)]; omega
  rw [e]
  show (ns.drop i.toNat).take (ns.length - i.toNat) = ns.drop i.toNat
  exact List.take_of_length_le (by rw [List.length_drop]; omega)
theorem cutI_to {ns : List Int} {i : Int} (h0 : 0 ≤ i) (h1 : i ≤ ns.length) : cutI ns none (some i) = ns.take i.toNat := by
  unfold cutI
  have e : HT.sIx ns.length ns.length (some i) = i.toNat := by
    show (if i < 0 then _ else min i.toNat ns.length) = i.toNat
    rw [if_neg (by omega)]; omega
  rw [e]
  show ((ns.drop 0).take (i.toNat - 0)) = ns.take i.toNat
  rw [List.drop_zero, Nat.sub_zero]
/-! ### filtered comprehensions -/
/-- of the first i turns those that b keeps, told by o -/
def fl {α : Type} (b : Nat → Bool) (o : Nat → α) (i : Nat) : List α := ((List.range i).filter b).map o
theorem fl_succ {α : Type} (b : Nat → Bool) (o : Nat → α) (i : Nat) : fl b o (i + 1) = if b i = true then fl b o i ++ [o i] else fl b o i := by
  unfold fl
  rw [List.range_succ, List.filter_append, List.map_append]
  cases h : b i <;> simp [h]
theorem fl_len {α : Type} (b : Nat → Bool) (o : Nat → α) (i : Nat) : (fl b o i).length ≤ i := by
  unfold fl
  rw [List.length_map]
  exact Nat.le_trans (List.length_filter_le _ _) (by rw [List.length_range]; exact Nat.le_refl _)
section
variable {L : Lg} {σ σ0 : SS} {g : TG} {tt : TT} {te : TE} {vs : List Nat} {Q : VK} {b : Nat → Bool} {o : Nat → V} {D : Addr} {i : Nat} {M R2 : Lg}
def lcFl (L : Lg) (b : Nat → Bool) (o : Nat → V) (D : Addr) (i : Nat) : Hp → Prop := lcNx (fun _ (_ : Unit) => L) (fun i _ => fl b o i) (fun _ _ => True) D i
theorem t_lcFlA {v : V} {n : Nat} (hn : i < n) (hz : n ≤ sizeLine) (hb : b i = true) (hv : v = o i) (hp : Pick D (.lst (fl b o i)) M R2) (hM : Sub R2 L) : Tr M fun H => lcAdd D (lcFl L b o D (i + 1)) v H := by
  refine t_lcAdd () trivial hp ?_ (by rw [fl_succ, if_pos hb, hv]) hM
  have := fl_len b o i
  omega
theorem t_lcFlS (hb : b i = false) (hp : Pick D (.lst (fl b o i)) M R2) (hM : Sub R2 L) : Tr M fun H => lcFl L b o D (i + 1) H := by
  refine t_lcSkip () trivial ?_
  have e : fl b o (i + 1) = fl b o i := by rw [fl_succ, if_neg (by rw [hb]; decide)]
  show Sub M ((D, .lst (fl b o (i + 1))) :: L)
  rw [e]
  exact .take hp hM
theorem t_lcFil {J : It} {n : Nat} {val : Nat → V → Lg → Prop} {Src : Lg → Prop} (wk : Wk J n val Src) (hw : wipe σ vs = σ0) (b : Nat → Bool) (o : Nat → V) (hsrc : ∀ x, Src (x :: L))
    (hs : ∀ D i v L', i < n → val i v L' → Tr (L' ++ (D, .lst (fl b o i)) :: L) fun H => g v σ0 H fun σ2 H2 => wipe σ2 vs = σ0 ∧ tt σ2 H2 fun c H3 => if c = true then te σ2 H3 (lcAdd D (lcFl L b o D (i + 1))) else lcFl L b o D (i + 1) H3)
    (hd : ∀ D, Tr ((D, .lst (fl b o n)) :: L) fun H => Q (.ref D) H) : Tr L fun H => lcK g tt te vs σ Q J H :=
  t_lcK wk hw (fun _ (_ : Unit) => L) (fun i _ => fl b o i) (fun _ _ => True) ⟨(), trivial, rfl, .refl⟩ (fun D i y _ => hsrc _) (fun D i y v L' hi _ hv => hs D i v L' hi hv) fun D y _ => hd D
theorem fl_ints (b : Nat → Bool) (o : Nat → Int) (i : Nat) : fl b (fun k => V.int (o k)) i = (fl b o i).map V.int := by unfold fl; rw [List.map_map]; rfl
end
end Hz
namespace Hz
open PySem PySem.Spec PyProof.Rows L2 RZ
/-! ### while, the test may change the heap -/
section
variable {L : Lg} {σ : SS} {D : Ends} {tc : TT} {tb : TS}
variable {α : Type} {S : α → SS} {M : α → Lg} {I : α → Prop} {μ : α → Nat} {n : Nat}
/-- behind the test of a while -/
def whB (tb : TS) (D : Ends) (S : α → SS) (M : α → Lg) (I : α → Prop) (μ : α → Nat) (n : Nat) (σ : SS) (b : Bool) (H : Hp) : Prop :=
  if b = true then ∃ N : SS → Hp → Prop, (∀ σ' H', N σ' H' → ∃ m', m' < n ∧ ∃ y, m' = μ y ∧ I y ∧ σ' = S y ∧ Led H' (M y)) ∧ tb { D with nx := N, ct := N, bk := D.nx } σ H else D.nx σ H
theorem t_whBT (k : Tr L fun H => tb { D with nx := Wst S M I μ n, ct := Wst S M I μ n, bk := D.nx } σ H) : Tr L fun H => whB tb D S M I μ n σ true H := fun H l => by
  refine iteT ?_
  exact ⟨_, fun σ3 H3 ⟨z, iz, lt, e, lz⟩ => ⟨μ z, lt, z, rfl, iz, e, lz⟩, k H l⟩
theorem t_whBF (k : Tr L fun H => D.nx σ H) : Tr L fun H => whB tb D S M I μ n σ false H := fun H l => by
  exact iteF (k H l)
theorem t_whB {c : Prop} [Decidable c] (h1 : c → Tr L fun H => tb { D with nx := Wst S M I μ n, ct := Wst S M I μ n, bk := D.nx } σ H) (h2 : ¬ c → Tr L fun H => D.nx σ H) : Tr L fun H => whB tb D S M I μ n σ (decide c) H := by
  by_cases h : c
  · rw [decide_eq_true h]; exact t_whBT (h1 h)
  · rw [decide_eq_false h]; exact t_whBF (h2 h)
theorem t_whG (S : α → SS) (M : α → Lg) (I : α → Prop) (μ : α → Nat) (h0 : ∃ y, I y ∧ σ = S y ∧ Sub L (M y)) (hs : ∀ y, I y → Tr (M y) fun H => tc (S y) H (whB tb D S M I μ (μ y) (S y))) : Tr L fun H => tWhile tc tb D σ H := by
  intro H l
  obtain ⟨y0, i0, e0, s0⟩ := h0
  refine ⟨fun m σ' H' => ∃ y, m = μ y ∧ I y ∧ σ' = S y ∧ Led H' (M y), ⟨μ y0, y0, rfl, i0, e0, l.sub s0⟩, ?_⟩
  rintro m σ' H' ⟨y, rfl, iy, rfl, ly⟩
  exact hs y iy H' ly
end
end Hz
namespace Hz
open PySem PySem.Spec PyProof.Rows L2 RZ
/-- two ways come together: a new list of ints at p, o otherwise known -/
theorem t_joinO {L : Lg} {G : Hp → Prop} {T : Addr → Hp → Prop} (X : List Int → Addr → HO → Lg) (J : List Int → HO → Prop) (k : (∀ ds p o M, J ds o → Sub M (X ds p o) → Tr M (T p)) → Tr L G)
    (main : ∀ ds p o, J ds o → Tr (X ds p o) (T p)) : Tr L G := k fun ds p o M h s => (main ds p o h).sub s
/-- two ways come together: o otherwise known -/
theorem t_join1 {L : Lg} {G : Hp → Prop} {T : Hp → Prop} (X : HO → Lg) (J : HO → Prop) (k : (∀ o M, J o → Sub M (X o) → Tr M T) → Tr L G) (main : ∀ o, J o → Tr (X o) T) : Tr L G := k fun o M h s => (main o h).sub s
/-- two ways come together -/
theorem t_join0 {L : Lg} {G : Hp → Prop} {T : Hp → Prop} (X : Lg) (k : (∀ M, Sub M X → Tr M T) → Tr L G) (main : Tr X T) : Tr L G := k fun M s => main.sub s
/-- two ways come together: an int -/
theorem t_joinI {L : Lg} {G : Hp → Prop} {T : Int → Hp → Prop} (X : HO → Lg) (J : Int → HO → Prop) (k : (∀ i o M, J i o → Sub M (X o) → Tr M (T i)) → Tr L G) (main : ∀ i o, J i o → Tr (X o) (T i)) : Tr L G := k fun i o M h s => (main i o h).sub s
end Hz
namespace Hz
open PySem PySem.Spec PyProof.Rows L2 RZ
section
variable {L R : Lg} {σ : SS} {Q : VK} {K : PySem.W.Frag} {a : Addr} {ns : List Int} {xs : List V}
theorem t_sortI (hp : Pick a (.lst (ns.map V.int)) L R) (k : ∀ (ns' : List Int) p, ns'.Perm ns → ns'.Pairwise (· ≤ ·) → Tr ((p, .lst (ns'.map V.int)) :: L) fun H => Q (.ref p) H) : Tr L fun H => rSortedI K [.ref a] H Q :=
  fun H l => ⟨a, ns, rfl, sqL hp l, fun ns' p h1 h2 hp' => k ns' p h1 h2 _ (l.new hp')⟩
theorem first_idx {ns : List Int} {y : Int} (h : y ∈ ns) : ∃ j : Nat, ns[j]? = some y ∧ ∀ m : Nat, m < j → ns[m]? ≠ some y := by
  induction ns with
  | nil => cases h
  | cons n r ih =>
    by_cases e : n = y
    · exact ⟨0, by rw [e]; rfl, fun m hm => by omega⟩
    · obtain ⟨j, h1, h2⟩ := ih (by
        rcases List.mem_cons.mp h with h | h
        · exact absurd h.symm e
        · exact h)
      refine ⟨j + 1, by simpa using h1, fun m hm => ?_⟩
      cases m with
      | zero => simpa using e
      | succ m => simpa using h2 m (by omega)
theorem t_indexI {y : Int} (hp : Pick a (.lst (ns.map V.int)) L R) (h : y ∈ ns) (k : ∀ j : Nat, ns[j]? = some y → Tr L fun H => Q (.int (j : Nat)) H) : Tr L fun H => rIndex K (.ref a) [.int y] H Q := by
  obtain ⟨j, h1, h2⟩ := first_idx h
  refine fun H l => ⟨a, ns.map V.int, .int y, j, .int y, rfl, rfl, sqL hp l, rfl, flat_ints ns, by rw [List.getElem?_map, h1]; rfl, (show (y == y) = true from beq_self_eq_true y), fun m z' hm hz => ?_, k j h1 H l⟩
  rw [List.getElem?_map] at hz
  cases e : ns[m]? with
  | none => rw [e] at hz; cases hz
  | some w =>
    rw [e] at hz
    cases hz
    show (w == y) = false
    have := h2 m hm
    rw [e] at this
    simpa using this
theorem t_lstG {n : Nat} {gs : TGs} {Qn : SS → Hp → Prop} (hp : Pick a (.lst xs) L R) (hn : xs.length = n) (k : Tr L fun H => gs xs σ H Qn) : Tr L fun H => gLst K n gs (.ref a) σ H Qn := fun H l => ⟨a, xs, rfl, sqL hp l, hn, k H l⟩
theorem fl_none {α : Type} (o : Nat → α) (n : Nat) : fl (fun _ => false) o n = [] := by unfold fl; rw [List.filter_eq_nil_iff.mpr (fun _ _ => by decide)]; rfl
theorem fl_all {α : Type} (o : Nat → α) (n : Nat) : fl (fun _ => true) o n = (List.range n).map o := by unfold fl; rw [List.filter_eq_self.mpr (fun _ _ => rfl)]
end
end Hz
namespace Hz
open PySem PySem.Spec PyProof.Rows L2 RZ
/-- two ways come together: an int, the heap as it was -/
theorem t_joinE {L : Lg} {G : Hp → Prop} {T : Int → Hp → Prop} (X : Lg) (J : Int → Prop) (k : (∀ i M, J i → Sub M X → Tr M (T i)) → Tr L G) (main : ∀ i, J i → Tr X (T i)) : Tr L G := k fun i M h s => (main i h).sub s
theorem rg_at {a b d : Int} (h0 : 0 ≤ d) (h1 : d < b - a) : atD (rgI a b) d = a + d := by
  have := atD_nat (rgI_get (a := a) (b := b) (i := d.toNat) (by omega))
  rwa [Int.toNat_of_nonneg h0] at this
end Hz
namespace Hz
open PySem PySem.Spec PyProof.Rows L2 RZ
/-- two ways come together ahead of a loop over range(e) -/
theorem t_joinR {L : Lg} {G : Hp → Prop} {g : TG} {tb : TS} {D : Ends} {σ : SS} (X : Lg) (J : Int → Prop) (k : (∀ i M, J i → Sub M X → Tr M (forK g tb D σ (Itr 0 i.toNat))) → Tr L G) (main : ∀ i, J i → Tr X (forK g tb D σ (Itr 0 i.toNat))) : Tr L G := k fun i M h s => (main i h).sub s
end Hz

/-! Hz, part S: a list's slice is stored, with open ends. -/
namespace Hz
open PySem PySem.Spec PyProof.Rows L2 RZ PySem.W
section
variable {prog : Program} {w : World} {A : Around} {s : Shared} {E : Value → Shared → Prop}
theorem bounds_open (n : Nat) : sliceBounds none none none n = (((0 : Nat) : Int), (n : Int), 1) := by
  simp only [sliceBounds, Option.getD_none]
  rfl
theorem bounds_from {a n : Nat} (h : a ≤ n) : sliceBounds (some (a : Int)) none none n = ((a : Int), (n : Int), 1) := by
  simp only [sliceBounds, Option.getD_none]
  have h1 : ¬ ((a : Int) < 0) := by omega
  simp only [h1, if_false, show (1 : Int) > 0 by decide, if_true]
  congr 1
  omega
/-- the store at the level of values: the bounds are told -/
theorem store_slice {l b sl : Addr} {items new : Array Value} {n n2 a c : Nat} {vl vu : Value} {lo hi : Option Int} {Q : Unit → Shared → Prop}
    (e : s.heap.get? l = some { cls := .type "list", data := .seq items n }) (e2 : s.heap.get? b = some { cls := .type "list", data := .seq new n2 }) (hne : l ≠ b)
    (hs : s.heap.IsSliceOf sl vl vu .none) (pl : IsPart vl lo) (pu : IsPart vu hi) (hb : sliceBounds lo hi none items.size = ((a : Int), (c : Int), 1)) (hac : a ≤ c) (hc : c ≤ items.size)
    (hsz : items.size + new.size ≤ sizeLine) (h : Q () { s with heap := s.heap.update l (Obj.mapSeq fun xs => xs.extract 0 a ++ new ++ xs.extract c xs.size) }) :
    wpAny (model prog w) A (setItem (.ref l) (.ref sl) (.ref b)) Q E s := by
  have tl : s.heap.IsList l items := PySem.IsL.isList e
  have tb : s.heap.IsList b new := PySem.IsL.isList e2
  obtain ⟨os, o1, o2, o3⟩ := id hs
  have ts : s.TypeIs (.ref sl) "slice" := ⟨os, o1, o2⟩
  have same : Builtin.List.listSameRef (.ref l) (.ref b) = false := by
    unfold Builtin.List.listSameRef
    exact beq_eq_false_iff_ne.mpr hne
  have big : ((fun xs : Array Value => xs.extract 0 a ++ new ++ xs.extract c xs.size) items).size ≤ sizeLine + 1 := by
    simp only [Array.size_append, Array.size_extract]
    omega
  unfold setItem
  try with_reducible refine wpAny_holding ?_
  first | refine wpAny_bind (wpAny_pure ?_) | skip
  refine wpAny_bind (wpAny_sequenceKey tl.typeIs (by decide) (wpAny_bind (wpAny_callSpecial?_slot (name := Str.ofString "__setitem__") tl.typeIs slot_list_setitem
    (wpAny_call_entry slot_list_setitem tl.typeIs entry_list_setitem ?_ (args_list_setitem _ _ _)))))
  show wpAny _ _ (Builtin.List.listSubscript? (.ref sl) >>= _) _ _ s
  refine wpAny_bind ?_
  unfold Builtin.List.listSubscript?
  refine wpAny_bind (wpAny_specialOf ts slice_no_index ?_)
  simp only [Option.isNone_none, if_true]
  refine wpAny_pure ?_
  show wpAny _ _ (typeOf (.ref sl) >>= _) _ _ s
  refine wpAny_bind (wpAny_typeOf ts ?_)
  first
    | rw [if_neg (by decide)]
    | refine PySem.W.KFB.if_not (by decide) ?_
  rw [listSliceParts_eq]
  refine wpAny_bind (wpAny_bind (wpAny_field o1 o3 (x := .none) rfl (wpAny_bind (wpAny_listPart .none ?_))))
  rw [if_neg (show ¬ ((rawPart none == rawInt 0) = true) from Bool.false_ne_true)]
  refine wpAny_bind (wpAny_field o1 o3 (x := vl) rfl (wpAny_bind (wpAny_listPart pl (wpAny_bind (wpAny_field o1 o3 (x := vu) rfl (wpAny_bind (wpAny_listPart pu (wpAny_pure ?_))))))))
  first
    | simp only [same, Bool.false_eq_true, if_false]
    | refine PySem.W.KFB.if_not same ?_
    | (dsimp only
       rw [if_neg (by rw [same]; exact Bool.false_ne_true)])
  refine wpAny_bind (m := Builtin.List.listAllItems (.ref b) "must assign iterable to extended slice") ?_
  unfold Builtin.List.listAllItems
  refine wpAny_bind (wpAny_typeOf tb.typeIs ?_)
  first
    | refine PySem.W.KFB.if_so (by decide) ?_
    | rw [if_pos (by decide)]
    | simp only [beq_self_eq_true, Bool.true_or, if_true]
  unfold Builtin.List.listItems
  refine wpAny_bind (wpAny_seqItems e2 rfl (wpAny_pure ?_))
  refine wpAny_bind (wpAny_bind (wpAny_seqItems e rfl (wpAny_pure ?_)))
  refine wpAny_bind (wpAny_of_eq ((sliceIndices_raw lo hi none items.size (by simp)).trans (congrArg (pure : Int × Int × Int → Sem (Int × Int × Int)) hb)) ?_)
  show wpAny _ _ (if ((1 : Int) == 1) = true then _ else _) _ _ s
  rw [if_pos (by decide)]
  refine wpAny_bind (wpAny_rule ?_)
  first
    | simp only [notLongL hsz, Bool.false_eq_true, if_false]
    | refine PySem.W.KFB.if_not (notLongL hsz) ?_
  first | refine wpAny_bind (wpAny_pure ?_) | skip
  show wpAny _ _ (updateSeq l (fun xs => xs.extract 0 ((a : Int)).toNat ++ new ++ xs.extract (max (a : Int) (c : Int)).toNat xs.size) >>= _) _ _ s
  rw [show (max (a : Int) (c : Int)).toNat = c by omega, Int.toNat_natCast]
  refine wpAny_bind (wpAny_updateSeq (hz := Nat.le_trans (Nat.le_add_right _ _) hsz) (_hz' := big) e rfl ?_)
  refine wpAny_bind (wpAny_letGo ?_)
  first
    | exact wpAny_bind (wpAny_pure (wpAny_pure ⟨.none, rfl, wpAny_pure h⟩))
    | exact wpAny_pure ⟨.none, rfl, wpAny_pure h⟩
end
/-- xs[lo:hi] = ys : the bounds are told -/
def rSetSl (o : V) (lo hi : Option Int) (v : V) (H : Hp) (G : Hp → Prop) : Prop := ∃ l b xs ys a c, o = .ref l ∧ v = .ref b ∧ H l = some (.lst xs) ∧ H b = some (.lst ys) ∧ l ≠ b ∧
  sliceBounds lo hi none xs.length = (((a : Nat) : Int), ((c : Nat) : Int), 1) ∧ a ≤ c ∧ c ≤ xs.length ∧ xs.length + ys.length ≤ sizeLine ∧ G (upd H l (.lst (xs.take a ++ ys ++ xs.drop c)))
def gSl (to : TE) (tl th : TO) : TG := fun v σ H Q => to σ H fun o H1 => tl σ H1 fun lo H2 => th σ H2 fun hi H3 => rSetSl o lo hi v H3 fun H4 => Q σ H4
section
variable {X : Cx}
theorem pg_slice {o : Expr} {lo hi : Option Expr} {to : TE} {tl th : TO} {pos p2 : Pos} (ho : PE X o to) (hl : PO X lo tl) (hu : PO X hi th)
    (ha : ∀ v, assign (.Subscript o (.Slice lo hi none p2) pos) X.env v = (do
      let ov ← holding [v] (eval o X.env)
      let iv ← holding [v, ov] (eval (.Slice lo hi none p2) X.env)
      standAt pos
      holding [v, ov, iv] (setItem ov iv v)
      release [iv, v, ov] []) := by intro _; rfl) : PG X (.Subscript o (.Slice lo hi none p2) pos) (gSl to tl th) := by
  refine ⟨fun pins s σ H v u Q I r h => ?_⟩
  rw [ha]
  refine wpAny_bind (wpAny_holding (thn (ho.run pins s σ H _ I h) fun ov s1 ⟨x, H1, I1, r1, q1⟩ => ?_))
  refine wpAny_bind (wpAny_holding (wpAny_Slice (thn (hl.run pins s1 σ H1 _ I1 q1) fun vl s2 ⟨l, H2, I2, pl, q2⟩ => thn (hu.run pins s2 σ H2 _ I2 q2) fun vu s3 ⟨u', H3, I3, pu, q3⟩ => ?_)))
  rw [evalPart_none]
  refine wpAny_pure ?_
  have I4 : Inv X pins σ H3 { s3 with heap := s3.heap.push { cls := .type "slice", data := .fields #[vl, vu, .none] } } := I3.kept (t' := s3.toks) fun b ob q => Heap.get?_push_of_some _ q
  obtain ⟨l', b, xs, ys, a, c, rfl, rfl, hH, hB, hne, hb, hac, hc, hz, q⟩ := q3
  cases r1
  cases r
  obtain ⟨z, its, n, rv, hlen, e⟩ := I4.lstM hH
  obtain ⟨z2, its2, n2, r2, hlen2, e2⟩ := I4.lstM hB
  refine wpAny_bind (wpAny_standAt (wpAny_bind (wpAny_holding ?_)))
  have sz : its.toArray.size = xs.length := by rw [List.size_toArray]; omega
  refine store_slice (a := a) (c := c) e e2 hne (Heap.IsSliceOf.new ..) pl pu (by rw [sz]; exact hb) hac (by rw [sz]; exact hc) (by rw [sz, List.size_toArray]; omega) ?_
  refine wpAny_release ⟨σ, _, ?_, q⟩
  refine I4.lset (its' := its.take a ++ its2 ++ its.drop c) (t' := s3.toks) hH e ?_ (Vals.append (Vals.append (rv.take _) r2) (rv.drop _)) ?_
  · exact splice_eq its its2 a c
  · rw [List.length_append, List.length_append, List.length_take, List.length_drop]
    omega
end
section
variable {L R R' : Lg} {σ : SS} {l b : Addr} {ns ms : List Int} {G : Hp → Prop}
theorem t_gSl {to : TE} {tl th : TO} {v : V} {Qn : SS → Hp → Prop} (k : Tr L fun H => to σ H fun o H1 => tl σ H1 fun lo H2 => th σ H2 fun hi H3 => rSetSl o lo hi v H3 fun H4 => Qn σ H4) : Tr L fun H => gSl to tl th v σ H Qn := k
theorem ne_led {H : Hp} {L R R' : Lg} {a b : Addr} {o o' : HO} (l : Led H L) (p : Pick a o L R) (q : Pick b o' R R') : a ≠ b := by
  intro e
  subst e
  have n := (List.nodup_cons.mp (l.pick p).nd).1
  exact n (List.mem_map.mpr ⟨_, q.mem, rfl⟩)
/-- xs[:] = ys -/
theorem t_setAll (hp : Pick l (.lst (ns.map V.int)) L R) (hq : Pick b (.lst (ms.map V.int)) R R') (hz : ns.length + ms.length ≤ sizeLine) (k : Tr ((l, .lst (ms.map V.int)) :: R) G) : Tr L fun H => rSetSl (.ref l) none none (.ref b) H G := fun H h =>
  ⟨l, b, _, _, 0, ns.length, rfl, rfl, h.get hp, (h.pick hp).tail.get hq, ne_led h hp hq, by rw [List.length_map]; exact bounds_open _, Nat.zero_le _, by rw [List.length_map]; exact Nat.le_refl _, by rw [List.length_map, List.length_map]; exact hz, by
    have e : (ns.map V.int).take 0 ++ ms.map V.int ++ (ns.map V.int).drop ns.length = ms.map V.int := by
      rw [List.take_zero, List.nil_append, List.drop_of_length_le (by rw [List.length_map]; exact Nat.le_refl _), List.append_nil]
    rw [e]
    exact k _ (h.pick hp).put⟩
/-- xs[i:] = ys -/
theorem t_setFrom {i : Int} (hp : Pick l (.lst (ns.map V.int)) L R) (hq : Pick b (.lst (ms.map V.int)) R R') (h0 : 0 ≤ i) (h1 : i ≤ ns.length) (hz : ns.length + ms.length ≤ sizeLine)
    (k : Tr ((l, .lst ((ns.take i.toNat ++ ms).map V.int)) :: R) G) : Tr L fun H => rSetSl (.ref l) (some i) none (.ref b) H G := fun H h =>
  ⟨l, b, _, _, i.toNat, ns.length, rfl, rfl, h.get hp, (h.pick hp).tail.get hq, ne_led h hp hq, by
      rw [List.length_map]
      have := bounds_from (a := i.toNat) (n := ns.length) (by omega)
      rw [Int.toNat_of_nonneg h0] at this ⊢
      exact this, by omega, by rw [List.length_map]; exact Nat.le_refl _, by rw [List.length_map, List.length_map]; exact hz, by
    have e : (ns.map V.int).take i.toNat ++ ms.map V.int ++ (ns.map V.int).drop ns.length = (ns.take i.toNat ++ ms).map V.int := by
      rw [List.drop_of_length_le (by rw [List.length_map]; exact Nat.le_refl _), List.append_nil, List.map_append, List.map_take]
    rw [e]
    exact k _ (h.pick hp).put⟩
end
end Hz

/-! Hz, part G: data with empty dicts; a ledger grown by what is new. -/
namespace Hz
open PySem PySem.Spec PyProof.Rows L2 RZ
/-! ### what repr reads: a dict may be no sys.modules -/
mutual
inductive Rq (h : Heap) : Value → PyData → Prop where
  | none : Rq h .none .none
  | bool (b : Bool) : Rq h (.bool b) (.bool b)
  | int (i : Int) (t : Nat) : Rq h (.int i t) (.int i)
  | str (x : Str) (t : Nat) : Rq h (.str x t) (.str x)
  | list {a : Addr} {o : Obj} {vs : Array Value} {n : Nat} {ds : List PyData} (g : h.get? a = some o) (c : o.cls = .type "list") (e : o.data = .seq vs n) (r : RqA h vs.toList ds) : Rq h (.ref a) (.list ds)
  | tuple {a : Addr} {o : Obj} {vs : Array Value} {n : Nat} {ds : List PyData} (g : h.get? a = some o) (c : o.cls = .type "tuple") (e : o.data = .seq vs n) (r : RqA h vs.toList ds) : Rq h (.ref a) (.tuple ds)
  | dict {a : Addr} {o : Obj} {es : Array DictEntry} {n : Nat} (g : h.get? a = some o) (c : o.cls = .type "dict") (e : o.data = .dict es n) (z : es.toList = []) (q : (a == sysModules) = false) : Rq h (.ref a) (.dict [])
inductive RqA (h : Heap) : List Value → List PyData → Prop where
  | nil : RqA h [] []
  | cons {v : Value} {vs : List Value} {d : PyData} {ds : List PyData} (r : Rq h v d) (q : RqA h vs ds) : RqA h (v :: vs) (d :: ds)
end
mutual
theorem Rq.reads {h : Heap} : ∀ {v : Value} {d : PyData}, Rq h v d → ∃ as, Reads h v d as
  | _, _, .none => ⟨_, .none⟩
  | _, _, .bool b => ⟨_, .bool b⟩
  | _, _, .int i t => ⟨_, .int i t⟩
  | _, _, .str x t => ⟨_, .str x t⟩
  | _, _, .list g c e r => let ⟨_, q⟩ := RqA.reads r; ⟨_, .list g c e q⟩
  | _, _, .tuple g c e r => let ⟨_, q⟩ := RqA.reads r; ⟨_, .tuple g c e q⟩
  | _, _, .dict (es := es) g c e z q => ⟨_, .dict (kvs := []) g c e (by rw [z]; exact .nil) (by rw [z]; exact .nil)⟩
theorem RqA.reads {h : Heap} : ∀ {vs : List Value} {ds : List PyData}, RqA h vs ds → ∃ as, ReadsAll h vs ds as
  | _, _, .nil => ⟨_, .nil⟩
  | _, _, .cons r q => let ⟨_, a⟩ := Rq.reads r; let ⟨_, b⟩ := RqA.reads q; ⟨_, .cons a b⟩
end
section
variable {P : Program} {w : World} {h : Heap}
theorem RqA.go {vs : List Value} {ds : List PyData} (F : ∀ v d, (v, d) ∈ vs.zip ds → d.showable = true → d.shown.length ≤ sizeLine → ∃ bs, ReadAtMost h d.depth bs ∧ ReprK P w bs h d.depth v d.shown) :
    RqA h vs ds → PyData.showableAll ds = true → (∀ t ∈ PyData.shownAll ds, t.length ≤ sizeLine) → ∃ bs, ReadAtMost h (PyData.depthAll ds) bs ∧ ReprAllK P w bs h (PyData.depthAll ds) vs (PyData.shownAll ds) := by
  induction vs generalizing ds with
  | nil =>
    intro r _ _
    cases r
    exact ⟨[], (fun _ z => nomatch z), by simp only [PyData.shownAll]; exact .nil⟩
  | cons v vs ih =>
    intro r hs hz
    cases r with
    | cons r q =>
      rename_i d ds
      simp only [PyData.showableAll, Bool.and_eq_true] at hs
      simp only [PyData.shownAll, List.mem_cons] at hz
      obtain ⟨b1, r1, k1⟩ := F v d (by simp) hs.1 (hz _ (.inl rfl))
      obtain ⟨b2, r2, k2⟩ := ih (fun v' d' m => F v' d' (by simp [m])) q hs.2 fun t ht => hz t (.inr ht)
      refine ⟨b1 ++ b2, fun b hb => ?_, ?_⟩
      · simp only [PyData.depthAll]
        rcases List.mem_append.mp hb with m | m
        · obtain ⟨d', as', x, y⟩ := r1 b m
          exact ⟨d', as', x, Nat.le_trans y (Nat.le_max_left _ _)⟩
        · obtain ⟨d', as', x, y⟩ := r2 b m
          exact ⟨d', as', x, Nat.le_trans y (Nat.le_max_right _ _)⟩
      · simp only [PyData.depthAll, PyData.shownAll]
        exact .cons ((k1.more fun b m => List.mem_append_left _ m).level_le (Nat.le_max_left _ _)) (k2.more_le (fun b m => List.mem_append_right _ m) (Nat.le_max_right _ _))
theorem rqa_at {vs : List Value} {ds : List PyData} {v : Value} {d : PyData} (r : RqA h vs ds) (m : (v, d) ∈ vs.zip ds) : Rq h v d := by
  induction vs generalizing ds with
  | nil => cases r; simp at m
  | cons x vs ih =>
    cases r with
    | cons r q =>
      simp only [List.zip_cons_cons, List.mem_cons, Prod.mk.injEq] at m
      rcases m with ⟨rfl, rfl⟩ | m
      · exact r
      · exact ih q m
theorem rqa_sz {vs : List Value} {ds : List PyData} {v : Value} {d : PyData} (m : (v, d) ∈ vs.zip ds) : sizeOf d < sizeOf ds := List.sizeOf_lt_of_mem (List.of_mem_zip m).2
theorem Rq.reprN : ∀ (N : Nat) {v : Value} {d : PyData}, sizeOf d ≤ N → Rq h v d → d.showable = true → d.shown.length ≤ sizeLine → ∃ bs, ReadAtMost h d.depth bs ∧ ReprK P w bs h d.depth v d.shown := by
  intro N
  induction N with
  | zero =>
    intro v d hN
    exfalso
    cases d <;> simp at hN <;> omega
  | succ N ihN =>
  intro v d hN r hs hz
  have r0 := r
  cases r with
  | none => exact ⟨[], (fun _ z => nomatch z), by simp only [PyData.shown]; exact .of_is ReprIs.none _ _ _⟩
  | bool b => exact ⟨[], (fun _ z => nomatch z), by simp only [PyData.shown]; exact .of_is (ReprIs.bool b) _ _ _⟩
  | int i t => exact ⟨[], (fun _ z => nomatch z), by simp only [PyData.shown]; exact .of_is (ReprIs.int t (by simpa [PyData.showable] using hs)) _ _ _⟩
  | str x t => exact ⟨[], (fun _ z => nomatch z), by simp only [PyData.shown]; exact .of_is (ReprIs.str x t (by simpa only [PyData.shown] using hz)) _ _ _⟩
  | list g c e r =>
    rename_i a o vs n ds
    obtain ⟨as, rr⟩ := r0.reads
    simp only [PyData.showable] at hs
    have hz2 : (listText (PyData.shownAll ds)).length ≤ sizeLine := by simpa only [PyData.shown] using hz
    obtain ⟨bs, hb, hk⟩ := RqA.go (P := P) (w := w) (fun v d m h1 h2 => ihN (by have := rqa_sz m; simp at hN; omega) (rqa_at r m) h1 h2) r hs fun t ht => Nat.le_trans (listText_mem_le ht) hz2
    have hna : a ∉ bs := not_mem_of_deeper rr (by simp only [PyData.depth]; omega) hb
    refine ⟨a :: bs, ReadAtMost.cons rr (by simp only [PyData.depth]; omega) hb, ?_⟩
    simp only [PyData.depth, PyData.shown]
    obtain ⟨l⟩ := vs
    cases l with
    | nil =>
      cases r
      simp only [PyData.shownAll, listText_nil]
      exact ReprK.listEmpty g c e
    | cons x l => exact ReprK.list g c e hna (by simpa using hk.length_eq) fun i y z => hk.item i y (by simpa using z)
  | tuple g c e r =>
    rename_i a o vs n ds
    obtain ⟨as, rr⟩ := r0.reads
    simp only [PyData.showable] at hs
    have hz2 : (tupleText (PyData.shownAll ds)).length ≤ sizeLine := by simpa only [PyData.shown] using hz
    obtain ⟨bs, hb, hk⟩ := RqA.go (P := P) (w := w) (fun v d m h1 h2 => ihN (by have := rqa_sz m; simp at hN; omega) (rqa_at r m) h1 h2) r hs fun t ht => Nat.le_trans (tupleText_mem_le ht) hz2
    have hna : a ∉ bs := not_mem_of_deeper rr (by simp only [PyData.depth]; omega) hb
    refine ⟨a :: bs, ReadAtMost.cons rr (by simp only [PyData.depth]; omega) hb, ?_⟩
    simp only [PyData.depth, PyData.shown]
    exact ReprK.tuple g c e hna hk
  | dict g c e z q =>
    rename_i a o es n
    obtain ⟨as, rr⟩ := r0.reads
    refine ⟨[a], ReadAtMost.cons rr (Nat.zero_le _) (bs := []) (n := 0) (fun _ z => nomatch z), ?_⟩
    simp only [PyData.depth, PyData.depthKv, PyData.shown, PyData.shownKv]
    exact ReprK.dict g c e q (by simp) (by rw [z]; exact .nil)
theorem Rq.repr {v : Value} {d : PyData} (r : Rq h v d) (hs : d.showable = true) (hz : d.shown.length ≤ sizeLine) : ∃ bs, ReadAtMost h d.depth bs ∧ ReprK P w bs h d.depth v d.shown := Rq.reprN _ (Nat.le_refl _) r hs hz
theorem Rq.shows {a : Addr} {d : PyData} (r : Rq h (.ref a) d) (hs : d.showable = true) (hz : d.shown.length ≤ sizeLine) : ∃ T idr, ShowsBy P w h a d T idr := by
  have r0 := r
  cases r with
  | list g c e r =>
    rename_i o vs n ds
    obtain ⟨as, rr⟩ := r0.reads
    simp only [PyData.showable] at hs
    have hz2 : (listText (PyData.shownAll ds)).length ≤ sizeLine := by simpa only [PyData.shown] using hz
    obtain ⟨bs, hb, hk⟩ := RqA.go (P := P) (w := w) (fun v d m h1 h2 => Rq.repr (rqa_at r m) h1 h2) r hs fun t ht => Nat.le_trans (listText_mem_le ht) hz2
    have hna : a ∉ bs := not_mem_of_deeper rr (by simp only [PyData.depth]; omega) hb
    refine ⟨"list", "list.__repr__", F.slot_list_repr.toG, F.slot_list_str, F.slot_list_format, fun s hk0 => ⟨o, hk0 _ _ g, c⟩, fun A E s Q hg hu hk0 hQ => ?_⟩
    simp only [PyData.depth] at hu
    simp only [PyData.shown] at hQ
    obtain ⟨l⟩ := vs
    cases l with
    | nil =>
      cases r
      simp only [PyData.shownAll, listText_nil] at hQ
      exact call_list_repr_empty ⟨o, hk0 _ _ g, c⟩ (hk0 _ _ g) e (hQ s.heap _ _ fun _ _ z => z)
    | cons x l => exact call_list_reprK g c e hna (by simpa using hk.length_eq) (fun i y z => hk.item i y (by simpa using z)) hg (fun b _ => Clear.nil b) hu hk0 hQ hz2
  | tuple g c e r =>
    rename_i o vs n ds
    obtain ⟨as, rr⟩ := r0.reads
    simp only [PyData.showable] at hs
    have hz2 : (tupleText (PyData.shownAll ds)).length ≤ sizeLine := by simpa only [PyData.shown] using hz
    obtain ⟨bs, hb, hk⟩ := RqA.go (P := P) (w := w) (fun v d m h1 h2 => Rq.repr (rqa_at r m) h1 h2) r hs fun t ht => Nat.le_trans (tupleText_mem_le ht) hz2
    have hna : a ∉ bs := not_mem_of_deeper rr (by simp only [PyData.depth]; omega) hb
    refine ⟨"tuple", "tuple.__repr__", F.slot_tuple_repr, F.slot_tuple_str, F.slot_tuple_format, fun s hk0 => ⟨o, hk0 _ _ g, c⟩, fun A E s Q hg hu hk0 hQ => ?_⟩
    simp only [PyData.depth] at hu
    simp only [PyData.shown] at hQ
    exact call_tuple_reprK g c e hna hk hg (fun b _ => Clear.nil b) hu hk0 hQ hz2
  | dict g c e z q =>
    rename_i o es n
    refine ⟨"dict", "dict.__repr__", F.slot_dict_repr, F.slot_dict_str, F.slot_dict_format, fun s hk0 => ⟨o, hk0 _ _ g, c⟩, fun A E s Q hg hu hk0 hQ => ?_⟩
    simp only [PyData.depth, PyData.depthKv] at hu
    simp only [PyData.shown, PyData.shownKv] at hQ hz
    exact call_dict_reprK (as := []) g c e q (by simp) (ps := []) (by rw [z]; exact .nil) hg (fun b _ => Clear.nil b) hu hk0 hQ hz
end
/-! ### data by the ledger, empty dicts among them -/
mutual
inductive Dv (L : Lg) : V → PyData → Prop where
  | non : Dv L .non .none
  | bl (b : Bool) : Dv L (.bl b) (.bool b)
  | int (i : Int) : Dv L (.int i) (.int i)
  | str (z : Str) : Dv L (.str z) (.str z)
  | lst {a : Addr} {xs : List V} {ds : List PyData} (m : (a, .lst xs) ∈ L) (r : DvAll L xs ds) : Dv L (.ref a) (.list ds)
  | tup {a : Addr} {xs : List V} {ds : List PyData} (m : (a, .tup xs) ∈ L) (r : DvAll L xs ds) : Dv L (.ref a) (.tuple ds)
  | dct {a : Addr} (m : (a, .dK []) ∈ L) : Dv L (.ref a) (.dict [])
inductive DvAll (L : Lg) : List V → List PyData → Prop where
  | nil : DvAll L [] []
  | cons {x : V} {xs : List V} {d : PyData} {ds : List PyData} (h : Dv L x d) (r : DvAll L xs ds) : DvAll L (x :: xs) (d :: ds)
end
mutual
theorem Dv.mono {L M : Lg} (s : ∀ p ∈ L, p ∈ M) : ∀ {x : V} {d : PyData}, Dv L x d → Dv M x d
  | _, _, .non => .non
  | _, _, .bl b => .bl b
  | _, _, .int i => .int i
  | _, _, .str z => .str z
  | _, _, .lst m h => .lst (s _ m) (DvAll.mono s h)
  | _, _, .tup m h => .tup (s _ m) (DvAll.mono s h)
  | _, _, .dct m => .dct (s _ m)
theorem DvAll.mono {L M : Lg} (s : ∀ p ∈ L, p ∈ M) : ∀ {xs : List V} {ds : List PyData}, DvAll L xs ds → DvAll M xs ds
  | _, _, .nil => .nil
  | _, _, .cons h r => .cons (Dv.mono s h) (DvAll.mono s r)
end
mutual
theorem Dt.dv {L : Lg} : ∀ {x : V} {d : PyData}, Dt L x d → Dv L x d
  | _, _, .non => .non
  | _, _, .bl b => .bl b
  | _, _, .int i => .int i
  | _, _, .str z => .str z
  | _, _, .lst m h => .lst m (DtAll.dv h)
  | _, _, .tup m h => .tup m (DtAll.dv h)
theorem DtAll.dv {L : Lg} : ∀ {xs : List V} {ds : List PyData}, DtAll L xs ds → DvAll L xs ds
  | _, _, .nil => .nil
  | _, _, .cons h r => .cons (Dt.dv h) (DtAll.dv r)
end
theorem DvAll.len {L : Lg} : ∀ {xs : List V} {ds : List PyData}, DvAll L xs ds → xs.length = ds.length
  | _, _, .nil => rfl
  | _, _, .cons _ r => by rw [List.length_cons, List.length_cons, r.len]
theorem DvAll.get {L : Lg} : ∀ {xs : List V} {ds : List PyData} {i : Nat} {x : V}, DvAll L xs ds → xs[i]? = some x → ∃ d, ds[i]? = some d ∧ Dv L x d
  | _, _, 0, _, .cons h _, e => by cases e; exact ⟨_, rfl, h⟩
  | _, _, i + 1, _, .cons _ r, e => r.get (i := i) (by simpa using e)
theorem DvAll.ints {L : Lg} (ns : List Int) : DvAll L (ns.map V.int) (ns.map PyData.int) := (DtAll.ints ns).dv
theorem DvAll.app {L : Lg} : ∀ {xs ys : List V} {ds es : List PyData}, DvAll L xs ds → DvAll L ys es → DvAll L (xs ++ ys) (ds ++ es)
  | _, _, _, _, .nil, h => h
  | _, _, _, _, .cons h r, h2 => .cons h (r.app h2)
theorem Dv.ints {L : Lg} {a : Addr} {ns : List Int} (h : (a, .lst (ns.map V.int)) ∈ L) : Dv L (.ref a) (.list (ns.map PyData.int)) := .lst h (.ints ns)
theorem Dv.intsT {L : Lg} {a : Addr} {ns : List Int} (h : (a, .tup (ns.map V.int)) ∈ L) : Dv L (.ref a) (.tuple (ns.map PyData.int)) := .tup h (.ints ns)
theorem Dv.ty {L : Lg} {x : V} {d : PyData} (h : Dv L x d) : HasTy L x (dtName d) := by
  cases h with
  | non => exact .non
  | bl b => exact .bl b
  | int i => exact .int i
  | str z => exact .str z
  | lst m _ => exact .lst m
  | tup m _ => exact .tup m
  | dct m => exact .dct m
section
variable {X : Cx} {pins : List (Addr × Obj)} {σ : L2.St} {H : Hp} {s : Shared} {L : Lg}
mutual
theorem Dv.rq (I : Inv X pins σ H s) (l : Led H L) : ∀ {x : V} {d : PyData} {u : Value}, Dv L x d → RelV x u → Rq s.heap u d
  | _, _, _, .non, r => by cases r; exact .none
  | _, _, _, .bl b, r => by cases r; exact .bool b
  | _, _, _, .int i, r => by obtain ⟨t, rfl⟩ := r; exact .int i t
  | _, _, _, .str z, r => by obtain ⟨t, rfl⟩ := r; exact .str z t
  | _, _, _, .lst m h, r => by
    cases r
    obtain ⟨its, rv, ⟨o, n, ho, hc, _, hd⟩, _⟩ := I.list (.inl (.inl (l.has _ m)))
    exact .list ho hc hd (by rw [List.toList_toArray]; exact DvAll.rq I l h rv)
  | _, _, _, .tup m h, r => by
    cases r
    obtain ⟨its, rv, ⟨o, ho, hc, n, hd⟩, _⟩ := I.tuple (.inl (.inl (l.has _ m)))
    exact .tuple ho hc hd (by rw [List.toList_toArray]; exact DvAll.rq I l h rv)
  | _, _, _, .dct m, r => by
    cases r
    obtain ⟨_, hq, vs, rel, o, es, ep, e, x, hd, _, pr, _⟩ := I.hok _ _ (l.has _ m)
    cases rel
    refine .dict e x.1 hd ?_ hq
    revert pr
    generalize es.toList = l
    intro pr
    cases pr; rfl
theorem DvAll.rq (I : Inv X pins σ H s) (l : Led H L) : ∀ {xs : List V} {ds : List PyData} {us : List Value}, DvAll L xs ds → Vals xs us → RqA s.heap us ds
  | _, _, _, .nil, r => by cases r; exact .nil
  | _, _, _, .cons h q, r => by
    cases r with
    | cons r1 r2 => exact .cons (Dv.rq I l h r1) (DvAll.rq I l q r2)
end
end
end Hz
namespace Hz
open PySem PySem.Spec PyProof.Rows L2 RZ
/-! ### what can be shown -/
/-- d's text has at most n signs, it is nested at most k deep -/
def Sz (n k : Nat) (d : PyData) : Prop := d.showable = true ∧ d.depth ≤ k ∧ d.shown.length ≤ n
theorem Sz.le {n k m j : Nat} {d : PyData} (h : Sz n k d) (e1 : n ≤ m) (e2 : k ≤ j) : Sz m j d := ⟨h.1, Nat.le_trans h.2.1 e2, Nat.le_trans h.2.2 e1⟩
theorem Sz.none : Sz 4 0 .none := ⟨by simp only [PyData.showable], by simp only [PyData.depth]; omega, by simp only [PyData.shown]; decide⟩
theorem Sz.bool (b : Bool) : Sz 5 0 (.bool b) := ⟨by simp only [PyData.showable], by simp only [PyData.depth]; omega, by cases b <;> simp only [PyData.shown] <;> decide⟩
theorem Sz.int {i : Int} (N : Nat) (h0 : 0 < N) (h1 : N ≤ 1000) (h : i.natAbs < 2 ^ N) : Sz (N + 1) 0 (.int i) := by
  have z := PySem.Flt.log2_lt_of h0 h
  refine ⟨by simp only [PyData.showable, decide_eq_true_eq]; omega, by simp only [PyData.depth]; omega, ?_⟩
  simp only [PyData.shown]
  rw [PySem.ofString_length]
  exact int_text_length_le h0 z
theorem Sz.str {z : Str} (h : ∀ c ∈ z.cps.toList, c < 16 ^ 8) : Sz (10 * z.cps.size + 8) 0 (.str z) := by
  refine ⟨by simp only [PyData.showable], by simp only [PyData.depth]; omega, ?_⟩
  have := PyData.shown_le 8 (by decide) (.str z) (by simp only [PyData.leavesShort, List.all_eq_true, decide_eq_true_eq]; exact h)
  simpa only [PyData.weight] using this
theorem Sz.dct : Sz 2 1 (.dict []) := ⟨by simp only [PyData.showable, PyData.showableKv], by simp only [PyData.depth, PyData.depthKv]; omega, by simp only [PyData.shown, PyData.shownKv]; decide⟩
theorem sz_show {n k : Nat} : ∀ {ds : List PyData}, (∀ d ∈ ds, Sz n k d) → PyData.showableAll ds = true
  | [], _ => by simp only [PyData.showableAll]
  | d :: r, h => by simp only [PyData.showableAll, (h d (.head _)).1, sz_show fun e m => h e (.tail _ m), Bool.and_self]
theorem sz_deep {n k : Nat} : ∀ {ds : List PyData}, (∀ d ∈ ds, Sz n k d) → PyData.depthAll ds ≤ k
  | [], _ => by simp only [PyData.depthAll]; omega
  | d :: r, h => by
    have h1 := (h d (.head _)).2.1
    have h2 := sz_deep (ds := r) fun e m => h e (.tail _ m)
    simp only [PyData.depthAll]; omega
theorem sz_sum {n k : Nat} : ∀ {ds : List PyData}, (∀ d ∈ ds, Sz n k d) → ((PyData.shownAll ds).map (·.length)).sum ≤ ds.length * n ∧ (PyData.shownAll ds).length = ds.length
  | [], _ => by simp [PyData.shownAll]
  | d :: r, h => by
    have h1 := (h d (.head _)).2.2
    obtain ⟨h2, h3⟩ := sz_sum (ds := r) fun e m => h e (.tail _ m)
    simp only [PyData.shownAll, List.map_cons, List.sum_cons, List.length_cons, h3, Nat.add_mul, Nat.one_mul]
    exact ⟨by omega, trivial⟩
theorem Sz.list {n k : Nat} {ds : List PyData} (m : Nat) (h : ∀ d ∈ ds, Sz n k d) (hl : ds.length ≤ m) : Sz (m * n + 2 * m + 3) (k + 1) (.list ds) := by
  obtain ⟨h1, h2⟩ := sz_sum h
  refine ⟨by simp only [PyData.showable]; exact sz_show h, by have := sz_deep h; simp only [PyData.depth]; omega, ?_⟩
  have h3 := listText_len_le (PyData.shownAll ds)
  have h4 : ds.length * n ≤ m * n := Nat.mul_le_mul_right _ hl
  simp only [PyData.shown]
  omega
theorem Sz.tuple {n k : Nat} {ds : List PyData} (m : Nat) (h : ∀ d ∈ ds, Sz n k d) (hl : ds.length ≤ m) : Sz (m * n + 2 * m + 3) (k + 1) (.tuple ds) := by
  obtain ⟨h1, h2⟩ := sz_sum h
  refine ⟨by simp only [PyData.showable]; exact sz_show h, by have := sz_deep h; simp only [PyData.depth]; omega, ?_⟩
  have h3 := tupleText_len_le (PyData.shownAll ds)
  have h4 : ds.length * n ≤ m * n := Nat.mul_le_mul_right _ hl
  simp only [PyData.shown]
  omega
theorem Sz.ints {ns : List Int} (N m : Nat) (h0 : 0 < N) (h1 : N ≤ 1000) (h : ∀ n ∈ ns, n.natAbs < 2 ^ N) (hl : ns.length ≤ m) : Sz (m * (N + 1) + 2 * m + 3) 1 (.list (ns.map PyData.int)) :=
  Sz.list m (fun d hd => by obtain ⟨n, hn, rfl⟩ := List.mem_map.mp hd; exact Sz.int N h0 h1 (h n hn)) (by rw [List.length_map]; exact hl)
theorem Sz.intsT {ns : List Int} (N m : Nat) (h0 : 0 < N) (h1 : N ≤ 1000) (h : ∀ n ∈ ns, n.natAbs < 2 ^ N) (hl : ns.length ≤ m) : Sz (m * (N + 1) + 2 * m + 3) 1 (.tuple (ns.map PyData.int)) :=
  Sz.tuple m (fun d hd => by obtain ⟨n, hn, rfl⟩ := List.mem_map.mp hd; exact Sz.int N h0 h1 (h n hn)) (by rw [List.length_map]; exact hl)
/-! ### repr of data -/
section
variable {X : Cx}
/-- repr(x), x data by any ledger that the heap holds -/
def rReprV : List V → Hp → VK → Prop := fun xs H Q => ∃ x d L, xs = [x] ∧ Led H L ∧ Dv L x d ∧ d.showable = true ∧ d.depth < 60 ∧ d.shown.length ≤ sizeLine ∧ Q (.str d.shown) H
theorem call_reprV (gd : X.A.guards = some []) (hu : X.A.units + 64 < cLine) : CallR X (.builtin "repr") rReprV := by
  intro pins s σ H xs us Q I r h
  obtain ⟨x, d, L, rfl, l, hd, hs, hk, hz, q⟩ := h
  obtain ⟨u, rfl, ru⟩ := vals1 r
  have rq := hd.rq I l ru
  have deep : ∀ {a : Addr}, Rq s.heap (.ref a) d → wpAny (model X.prog X.w) X.A (call (.builtin "repr") [.ref a]) (EP X pins σ Q) X.xe s := fun {a} rq => by
    obtain ⟨T, idr, S⟩ := rq.shows (P := X.prog) (w := X.w) hs hz
    exact call_repr_slot (by omega) (S.typeIs s fun _ _ z => z) S.slotRepr (S.call X.A.in1 X.xe s _ gd (by show X.A.units + 1 + d.depth < cLine; omega) (fun _ _ z => z) fun h' u tk hk => ⟨_, _, rfl, ⟨.str _, H, I.kept hk, ⟨_, rfl⟩, q⟩⟩)
  cases hd with
  | non =>
    cases (show u = Value.none from ru)
    exact PySem.P.repr_of_none ⟨.str _, H, I.tok _, ⟨_, rfl⟩, by simpa only [PyData.shown] using q⟩
  | bl b =>
    cases (show u = Value.bool b from ru)
    exact PySem.P.repr_of_bool ⟨.str _, H, I.tok _, ⟨_, rfl⟩, by simpa only [PyData.shown] using q⟩
  | int i =>
    obtain ⟨t, rfl⟩ := ru
    exact PySem.P.repr_of_int (by simpa [PyData.showable] using hs) ⟨.str _, H, I.tok _, ⟨_, rfl⟩, by simpa only [PyData.shown] using q⟩
  | str y =>
    obtain ⟨t, rfl⟩ := ru
    exact PySem.P.repr_of_str ⟨.str _, H, I.tok _, ⟨_, rfl⟩, by simpa only [PyData.shown] using q⟩ (by simpa only [PyData.shown] using hz)
  | lst _ _ =>
    cases (show u = Value.ref _ from ru)
    exact deep rq
  | tup _ _ =>
    cases (show u = Value.ref _ from ru)
    exact deep rq
  | dct _ =>
    cases (show u = Value.ref _ from ru)
    exact deep rq
end
section
variable {L M R : Lg} {Q : VK} {x : V} {d : PyData} {a : Addr}
theorem t_reprV (hd : Dv L x d) (n k : Nat) (hs : Sz n k d) (hn : n ≤ 16777216) (hk : k < 60) (q : Tr L fun H => Q (.str d.shown) H) : Tr L fun H => rReprV [x] H Q :=
  fun H l => ⟨x, d, L, rfl, l, hd, hs.1, Nat.lt_of_le_of_lt hs.2.1 hk, by rw [sizeLine_eq]; exact Nat.le_trans hs.2.2 hn, q H l⟩
theorem t_reprVI {ns : List Int} (hm : (a, .lst (ns.map V.int)) ∈ L) (h : ∀ n ∈ ns, n.natAbs < 2 ^ 1000) (hl : ns.length ≤ 16000) (q : Tr L fun H => Q (.str (reprI ns)) H) : Tr L fun H => rReprV [.ref a] H Q :=
  t_reprV (Dv.ints hm) _ _ (Sz.ints 1000 16000 (by decide) (by decide) h hl) (by decide) (by decide) q
/-! ### what is new stands ahead of what was -/
theorem Pick.app {o : HO} : ∀ (N : Lg) {L R : Lg}, Pick a o L R → Pick a o (N ++ L) (N ++ R)
  | [], _, _, h => h
  | _ :: N, _, _, h => .tail (Pick.app N h)
theorem Sub.app : ∀ (N : Lg) {L M : Lg}, Sub L M → Sub (N ++ L) M
  | [], _, _, h => h
  | _ :: N, _, _, h => .drop (Sub.app N h)
/-- M is N ahead of L -/
inductive Pre : Lg → Lg → Lg → Prop where
  | nil {L : Lg} : Pre L L []
  | cons {x : Addr × HO} {M L N : Lg} : Pre M L N → Pre (x :: M) L (x :: N)
  | app (K : Lg) {M L N : Lg} : Pre M L N → Pre (K ++ M) L (K ++ N)
theorem Pre.eq {M L N : Lg} (h : Pre M L N) : M = N ++ L := by
  induction h with
  | nil => rfl
  | cons _ ih => rw [ih]; rfl
  | app K _ ih => rw [ih, List.append_assoc]
theorem t_pre {o : HO} {N : Lg} {G : Hp → Prop} (hp : Pick a o M R) (h : Pre R L N) (k : Tr ((a, o) :: (N ++ L)) G) : Tr M G := by
  rw [← h.eq] at k
  exact Tr.pick hp k
theorem t_preV {o : HO} {N : Lg} {G : Hp → Prop} (S : PyData → Prop) (k : ∀ d, Dv (N ++ L) x d → S d → Tr ((a, o) :: (N ++ L)) G) (hp : Pick a o M R) (h : Pre R L N) (key : ∃ d, Dv R x d ∧ S d) : Tr M G := by
  obtain ⟨d, h1, h2⟩ := key
  rw [h.eq] at h1
  exact t_pre hp h (k d h1 h2)
theorem t_pre0 {N : Lg} {G : Hp → Prop} (h : Pre M L N) (k : Tr (N ++ L) G) : Tr M G := by
  rw [h.eq]; exact k
end
end Hz
namespace Hz
open PySem PySem.Spec PyProof.Rows L2 RZ
section
variable {L : Lg} {σ : SS} {Q : VK}
/-- {} -/
theorem t_dnewK (k : ∀ p, Tr ((p, .dK []) :: L) fun H => Q (.ref p) H) : Tr L fun H => tDNewK σ H Q := fun H l p hp => k p _ (l.new hp)
end
end Hz
namespace Hz
open PySem PySem.Spec PyProof.Rows L2 RZ
/-- ways come together: what is known then bears a name -/
theorem t_join {α : Type} {L : Lg} {G : Hp → Prop} {T : Hp → Prop} (X : α → Lg) (J : α → Prop) (k : (∀ y M, J y → Sub M (X y) → Tr M T) → Tr L G) (main : ∀ y, J y → Tr (X y) T) : Tr L G := k fun y M h s => (main y h).sub s
end Hz
namespace Hz
open PySem PySem.Spec PyProof.Rows L2 RZ
section
variable {L R R' : Lg} {Q : VK} {K : PySem.W.Frag} {a b p : Addr} {xs ys : List V}
theorem t_extend (hp : Pick a (.lst xs) L R) (hq : Pick b (.lst ys) L R') (hz : xs.length + ys.length ≤ sizeLine) (k : Tr ((a, .lst (xs ++ ys)) :: R) fun H => Q .non H) : Tr L fun H => rExtend (.ref a) [.ref b] H Q :=
  fun H l => ⟨a, b, xs, ys, rfl, rfl, l.get hp, l.get hq, hz, k _ (l.pick hp).put⟩
/-- xs[i] = v -/
theorem t_setV {i : Int} {v : V} {G : Hp → Prop} (hp : Pick p (.lst xs) L R) (h0 : 0 ≤ i) (h1 : i < xs.length) (k : Tr ((p, .lst (xs.set i.toNat v)) :: R) G) : Tr L fun H => rSetL (.ref p) (.int i) v H G :=
  t_setL (j := i.toNat) hp (by unfold ixN; first | rfl | (split <;> simp_all <;> omega)) k
/-! ### lists of tuples of two ints -/
def prD (p : Int × Int) : PyData := .tuple [.int p.1, .int p.2]
def prsD (ps : List (Int × Int)) : PyData := .list (ps.map prD)
/-- xs are tuples of two ints -/
def Prs (L : Lg) (xs : List V) (ps : List (Int × Int)) : Prop := DtAll L xs (ps.map prD)
theorem Dt.inv {L : Lg} {x : V} {p : Int × Int} (h : Dt L x (prD p)) : ∃ T, x = .ref T ∧ (T, .tup [.int p.1, .int p.2]) ∈ L := by
  unfold prD at h
  cases h with
  | tup m r =>
    cases r with
    | cons h1 r =>
      cases h1
      cases r with
      | cons h2 r =>
        cases h2
        cases r
        exact ⟨_, rfl, m⟩
theorem Dt.pr {L : Lg} {T : Addr} {s l : Int} (m : (T, .tup [.int s, .int l]) ∈ L) : Dt L (.ref T) (prD (s, l)) := .tup m (.cons (.int _) (.cons (.int _) .nil))
theorem Prs.len {L : Lg} {xs : List V} {ps : List (Int × Int)} (h : Prs L xs ps) : xs.length = ps.length := by
  have := DtAll.len h
  rwa [List.length_map] at this
theorem Prs.at {L : Lg} {xs : List V} {ps : List (Int × Int)} (h : Prs L xs ps) {i : Nat} {v : V} (e : xs[i]? = some v) : ∃ T p, v = .ref T ∧ ps[i]? = some p ∧ (T, .tup [.int p.1, .int p.2]) ∈ L := by
  obtain ⟨d, e1, hd⟩ := DtAll.get h e
  rw [List.getElem?_map] at e1
  cases e2 : ps[i]? with
  | none => rw [e2] at e1; cases e1
  | some p =>
    rw [e2] at e1
    cases e1
    obtain ⟨T, rfl, m⟩ := hd.inv
    exact ⟨T, p, rfl, rfl, m⟩
theorem Prs.mono {L M : Lg} (s : ∀ p ∈ L, p ∈ M) {xs : List V} {ps : List (Int × Int)} (h : Prs L xs ps) : Prs M xs ps := DtAll.mono s h
theorem DtAll.app {L : Lg} : ∀ {xs ys : List V} {ds es : List PyData}, DtAll L xs ds → DtAll L ys es → DtAll L (xs ++ ys) (ds ++ es)
  | _, _, _, _, .nil, h => h
  | _, _, _, _, .cons h r, h2 => .cons h (r.app h2)
theorem DtAll.set {L : Lg} : ∀ {xs : List V} {ds : List PyData} {x : V} {d : PyData} (i : Nat), DtAll L xs ds → Dt L x d → DtAll L (xs.set i x) (ds.set i d)
  | _, _, _, _, _, .nil, _ => .nil
  | _, _, _, _, 0, .cons _ r, h => .cons h r
  | _, _, _, _, i + 1, .cons h0 r, h => .cons h0 (r.set i h)
theorem Prs.app {L : Lg} {xs ys : List V} {ps qs : List (Int × Int)} (h : Prs L xs ps) (h2 : Prs L ys qs) : Prs L (xs ++ ys) (ps ++ qs) := by
  unfold Prs
  rw [List.map_append]
  exact DtAll.app h h2
theorem Prs.set {L : Lg} {xs : List V} {ps : List (Int × Int)} {x : V} {p : Int × Int} (i : Nat) (h : Prs L xs ps) (h2 : Dt L x (prD p)) : Prs L (xs.set i x) (ps.set i p) := by
  unfold Prs
  rw [List.map_set]
  exact DtAll.set i h h2
theorem Prs.one {L : Lg} {T : Addr} {s l : Int} (m : (T, .tup [.int s, .int l]) ∈ L) : Prs L [.ref T] [(s, l)] := .cons (.pr m) .nil
theorem Prs.snoc {L : Lg} {xs : List V} {ps : List (Int × Int)} {T : Addr} {s l : Int} (h : Prs L xs ps) (m : (T, .tup [.int s, .int l]) ∈ L) : Prs L (xs ++ [.ref T]) (ps ++ [(s, l)]) := h.app (.one m)
theorem Prs.dt {L : Lg} {xs : List V} {ps : List (Int × Int)} (h : Prs L xs ps) (m : (a, .lst xs) ∈ L) : Dt L (.ref a) (prsD ps) := .lst m h
/-- numbers of at most 110 bits -/
def Sm (ps : List (Int × Int)) : Prop := ∀ p ∈ ps, 0 ≤ p.1 ∧ p.1 < 2 ^ 110 ∧ 0 ≤ p.2 ∧ p.2 < 2 ^ 110
theorem Sz.pr {p : Int × Int} (h : 0 ≤ p.1 ∧ p.1 < 2 ^ 110 ∧ 0 ≤ p.2 ∧ p.2 < 2 ^ 110) : Sz 300 1 (prD p) :=
  (Sz.tuple (n := 111) (k := 0) 2 (fun d hd => by
    simp only [List.mem_cons, List.not_mem_nil, or_false] at hd
    rcases hd with rfl | rfl
    · exact Sz.int 110 (by decide) (by decide) (by omega)
    · exact Sz.int 110 (by decide) (by decide) (by omega)) (by simp)).le (by decide) (by decide)
theorem Sz.prs {ps : List (Int × Int)} (m : Nat) (h : Sm ps) (hl : ps.length ≤ m) : Sz (m * 300 + 2 * m + 3) 2 (prsD ps) :=
  Sz.list m (fun d hd => by obtain ⟨p, hp, rfl⟩ := List.mem_map.mp hd; exact Sz.pr (h p hp)) (by rw [List.length_map]; exact hl)
theorem eqvAll_prs : ∀ ps qs : List (Int × Int), PyData.eqvAll (ps.map prD) (qs.map prD) = decide (ps = qs)
  | [], [] => by simp [PyData.eqvAll]
  | [], _ :: _ => by simp [PyData.eqvAll]
  | _ :: _, [] => by simp [PyData.eqvAll]
  | (s, l) :: r, (s', l') :: r' => by
    simp only [List.map_cons, PyData.eqvAll, prD, PyData.eqv, eqvAll_prs r r', List.cons.injEq, Prod.mk.injEq, Bool.decide_and, Bool.and_true]
    rfl
theorem eqv_prs (ps qs : List (Int × Int)) : PyData.eqv (prsD ps) (prsD qs) = decide (ps = qs) := by
  simp only [prsD, PyData.eqv, eqvAll_prs]
theorem shaped_prs (ps : List (Int × Int)) : SeqAt.shaped (prsD ps) = true := by
  have c : ∀ ps : List (Int × Int), PyData.canLayAll0 (ps.map prD) = true := by
    intro ps
    induction ps with
    | nil => simp [PyData.canLayAll0]
    | cons n r ih => simp [PyData.canLayAll0, PyData.canLay0, prD, ih]
  have d : ∀ ps : List (Int × Int), PyData.depthAll (ps.map prD) ≤ 1 := by
    intro ps
    induction ps with
    | nil => simp [PyData.depthAll]
    | cons n r ih =>
      simp only [List.map_cons, PyData.depthAll, prD, PyData.depth]
      exact Nat.max_le.mpr ⟨by decide, ih⟩
  have := d ps
  unfold SeqAt.shaped prsD
  simp [PyData.canLay0, c, PyData.depth]
  omega
theorem t_eqPrs {ps qs : List (Int × Int)} (ha : Dt L (.ref a) (prsD ps)) (hb : Dt L (.ref b) (prsD qs)) (k : Tr L fun H => Q (.bl (decide (ps = qs))) H) : Tr L fun H => rEqD K (.ref a) (.ref b) H Q :=
  t_eqD ha.dpl hb.dpl (shaped_prs ps) (shaped_prs qs) (by rw [eqv_prs]; exact k)
theorem t_nePrs {ps qs : List (Int × Int)} (ha : Dt L (.ref a) (prsD ps)) (hb : Dt L (.ref b) (prsD qs)) (k : Tr L fun H => Q (.bl (!decide (ps = qs))) H) : Tr L fun H => rNeD K (.ref a) (.ref b) H Q :=
  t_neD ha.dpl hb.dpl (shaped_prs ps) (shaped_prs qs) (by rw [eqv_prs]; exact k)
end
end Hz
namespace Hz
open PySem PySem.Spec PyProof.Rows L2 RZ
/-- ways come together: two ints, o otherwise known -/
theorem t_joinP {L : Lg} {G : Hp → Prop} {T : Int → Int → Hp → Prop} (X : Int → Int → HO → Lg) (J : Int → Int → HO → Prop) (k : (∀ i j o M, J i j o → Sub M (X i j o) → Tr M (T i j)) → Tr L G) (main : ∀ i j o, J i j o → Tr (X i j o) (T i j)) : Tr L G := k fun i j o M h s => (main i j o h).sub s
end Hz
namespace Hz
open PySem PySem.Spec PyProof.Rows L2 RZ
/-- ns[:i], i may lie behind the end -/
theorem cutI_upto {ns : List Int} {i : Int} (h0 : 0 ≤ i) : cutI ns none (some i) = ns.take i.toNat := by
  unfold cutI
  have e : HT.sIx ns.length ns.length (some i) = min i.toNat ns.length := by
    show (if i < 0 then _ else min i.toNat ns.length) = min i.toNat ns.length
    rw [if_neg (by omega)]
  rw [e]
  show (ns.drop 0).take (min i.toNat ns.length - 0) = ns.take i.toNat
  rw [List.drop_zero, Nat.sub_zero, ← List.take_take, List.take_length]
end Hz
namespace Hz
open PySem PySem.Spec PyProof.Rows L2 RZ
/-- part of what is known bears a name from here on -/
theorem t_gen {α : Type} {L : Lg} {G : Hp → Prop} (X : α → Lg) (J : α → Prop) (y : α) (hJ : J y) (s : Sub L (X y)) (main : ∀ y, J y → Tr (X y) G) : Tr L G := (main y hJ).sub s
theorem fl_nil {α : Type} {b : Nat → Bool} {o : Nat → α} {n : Nat} : fl b o n = [] ↔ ∀ i, i < n → b i = false := by
  unfold fl
  rw [List.map_eq_nil_iff, List.filter_eq_nil_iff]
  constructor
  · intro h i hi
    exact Bool.eq_false_iff.mpr (h i (List.mem_range.mpr hi))
  · intro h i hi
    rw [h i (List.mem_range.mp hi)]; decide
/-- a comprehension's emptiness: all do -/
theorem fl_all_eq {α : Type} [Inhabited α] (ps : List α) (f : α → Bool) (o : Nat → Int) : decide (fl (fun t => !f (ps.getD t default)) o ps.length = []) = ps.all f := by
  rw [Bool.eq_iff_iff, decide_eq_true_eq, fl_nil, List.all_eq_true]
  constructor
  · intro h x hx
    obtain ⟨i, hi⟩ := List.mem_iff_getElem?.mp hx
    have := h i (List.getElem?_eq_some_iff.mp hi).1
    rw [List.getD_eq_getElem?_getD, hi] at this
    simpa using this
  · intro h i hi
    have := h ps[i] (List.getElem_mem hi)
    rw [List.getD_eq_getElem?_getD, List.getElem?_eq_getElem hi]
    simpa using this
theorem getD_of {α : Type} [Inhabited α] {ps : List α} {i : Nat} {x : α} (h : ps[i]? = some x) : ps.getD i default = x := by rw [List.getD_eq_getElem?_getD, h]; rfl
end Hz
namespace Hz
open PySem PySem.Spec PyProof.Rows L2 RZ
theorem Prs.pick {L : Lg} {xs : List V} {ps : List (Int × Int)} (h : Prs L xs ps) {i : Int} (h0 : 0 ≤ i) (h1 : i < ps.length) : ∃ T p, L2.atI xs i = some (.ref T) ∧ ps[i.toNat]? = some p ∧ p ∈ ps ∧ (T, .tup [.int p.1, .int p.2]) ∈ L := by
  have hl := h.len
  have hv : xs[i.toNat]? = some (xs[i.toNat]'(by omega)) := List.getElem?_eq_getElem (by omega)
  obtain ⟨T, p, e, e2, m⟩ := h.at hv
  rw [e] at hv
  have := atI_nat hv
  rw [Int.toNat_of_nonneg h0] at this
  exact ⟨T, p, this, e2, List.mem_of_getElem? e2, m⟩
end Hz
namespace Hz
open PySem PySem.Spec PyProof.Rows L2 RZ
/-- ns[i:], i may lie behind the end -/
theorem cutI_after {ns : List Int} {i : Int} (h0 : 0 ≤ i) : cutI ns (some i) none = ns.drop i.toNat := by
  unfold cutI
  have e : HT.sIx ns.length 0 (some i) = min i.toNat ns.length := by
    show (if i < 0 then _ else min i.toNat ns.length) = min i.toNat ns.length
    rw [if_neg (by omega)]
  rw [e]
  show (ns.drop (min i.toNat ns.length)).take (ns.length - min i.toNat ns.length) = ns.drop i.toNat
  rw [List.take_of_length_le (by rw [List.length_drop]; exact Nat.le_refl _)]
  by_cases c : i.toNat ≤ ns.length
  · rw [Nat.min_eq_left c]
  · rw [Nat.min_eq_right (by omega), List.drop_length, List.drop_of_length_le (by omega)]
end Hz
namespace Hz
open PySem PySem.Spec PyProof.Rows L2 RZ
/-! ### lists of lists of ints -/
def rwD (r : List Int) : PyData := .list (r.map PyData.int)
/-- xs are lists of ints -/
def Rws (L : Lg) (xs : List V) (rs : List (List Int)) : Prop := DtAll L xs (rs.map rwD)
theorem Dt.rw_inv {L : Lg} {x : V} {r : List Int} (h : Dt L x (rwD r)) : ∃ T, x = .ref T ∧ (T, .lst (r.map V.int)) ∈ L := by
  unfold rwD at h
  cases h with
  | lst m q =>
    rename_i a xs
    have : ∀ {xs : List V} {zs : List Int}, DtAll L xs (zs.map PyData.int) → xs = zs.map V.int := by
      intro xs
      induction xs with
      | nil => intro zs h; cases zs <;> first | rfl | cases h
      | cons x r ih =>
        intro zs h
        cases zs with
        | nil => cases h
        | cons z s =>
          cases h with
          | cons h1 h2 =>
            cases h1
            rw [ih h2]; rfl
    rw [this q] at m
    exact ⟨_, rfl, m⟩
theorem Rws.len {L : Lg} {xs : List V} {rs : List (List Int)} (h : Rws L xs rs) : xs.length = rs.length := by
  have := DtAll.len h
  rwa [List.length_map] at this
theorem Rws.at {L : Lg} {xs : List V} {rs : List (List Int)} (h : Rws L xs rs) {i : Nat} {v : V} (e : xs[i]? = some v) : ∃ T r, v = .ref T ∧ rs[i]? = some r ∧ (T, .lst (r.map V.int)) ∈ L := by
  obtain ⟨d, e1, hd⟩ := DtAll.get h e
  rw [List.getElem?_map] at e1
  cases e2 : rs[i]? with
  | none => rw [e2] at e1; cases e1
  | some r =>
    rw [e2] at e1
    cases e1
    obtain ⟨T, rfl, m⟩ := hd.rw_inv
    exact ⟨T, r, rfl, rfl, m⟩
theorem Rws.mono {L M : Lg} (s : ∀ p ∈ L, p ∈ M) {xs : List V} {rs : List (List Int)} (h : Rws L xs rs) : Rws M xs rs := DtAll.mono s h
theorem Rws.app {L : Lg} {xs ys : List V} {ps qs : List (List Int)} (h : Rws L xs ps) (h2 : Rws L ys qs) : Rws L (xs ++ ys) (ps ++ qs) := by
  unfold Rws
  rw [List.map_append]
  exact DtAll.app h h2
theorem Rws.one {L : Lg} {T : Addr} {r : List Int} (m : (T, .lst (r.map V.int)) ∈ L) : Rws L [.ref T] [r] := .cons (Dt.ints m) .nil
theorem Rws.snoc {L : Lg} {xs : List V} {rs : List (List Int)} {T : Addr} {r : List Int} (h : Rws L xs rs) (m : (T, .lst (r.map V.int)) ∈ L) : Rws L (xs ++ [.ref T]) (rs ++ [r]) := h.app (.one m)
theorem Rws.set {L : Lg} {xs : List V} {rs : List (List Int)} {T : Addr} {r : List Int} (i : Nat) (h : Rws L xs rs) (m : (T, .lst (r.map V.int)) ∈ L) : Rws L (xs.set i (.ref T)) (rs.set i r) := by
  unfold Rws
  rw [List.map_set]
  exact DtAll.set i h (Dt.ints m)
theorem Rws.pick {L : Lg} {xs : List V} {rs : List (List Int)} (h : Rws L xs rs) {i : Int} (h0 : 0 ≤ i) (h1 : i < rs.length) : ∃ T r, L2.atI xs i = some (.ref T) ∧ rs[i.toNat]? = some r ∧ r ∈ rs ∧ (T, .lst (r.map V.int)) ∈ L := by
  have hl := h.len
  have hv : xs[i.toNat]? = some (xs[i.toNat]'(by omega)) := List.getElem?_eq_getElem (by omega)
  obtain ⟨T, p, e, e2, m⟩ := h.at hv
  rw [e] at hv
  have := atI_nat hv
  rw [Int.toNat_of_nonneg h0] at this
  exact ⟨T, p, this, e2, List.mem_of_getElem? e2, m⟩
/-- a comprehension's emptiness, the other way -/
theorem fl_any_eq {α : Type} [Inhabited α] (ps : List α) (f : α → Bool) (o : Nat → Int) : decide (fl (fun t => f (ps.getD t default)) o ps.length = []) = !ps.any f := by
  have h := fl_all_eq ps (fun x => !f x) o
  simp only [Bool.not_not] at h
  rw [h, List.not_any_eq_all_not]
end Hz
namespace Hz
open PySem PySem.Spec PyProof.Rows L2 RZ
/-- a value by two ways, what follows is walked once -/
theorem t_ifV {α : Type} {L : Lg} {σ σ' : SS} {b : Bool} {ta tb : TE} {Q : VK} (S : α → V) (X : α → Lg) (J : α → Prop) (h1 : b = true → ∀ Q : VK, (∀ y, J y → ∀ M, Sub M (X y) → Tr M fun H => Q (S y) H) → Tr L fun H => ta σ H Q)
    (h2 : b = false → ∀ Q : VK, (∀ y, J y → ∀ M, Sub M (X y) → Tr M fun H => Q (S y) H) → Tr L fun H => tb σ' H Q) (k : ∀ y, J y → Tr (X y) fun H => Q (S y) H) : Tr L fun H => if b = true then ta σ H Q else tb σ' H Q :=
  t_ite (fun h => h1 h Q fun y j _ s => (k y j).sub s) fun h => h2 h Q fun y j _ s => (k y j).sub s
end Hz
namespace Hz
open PySem PySem.Spec PyProof.Rows L2 RZ
theorem Sub.keep : ∀ (N : Lg) {L M : Lg}, Sub L M → Sub (N ++ L) (N ++ M)
  | [], _, _, h => h
  | _ :: N, _, _, h => .take .head (Sub.keep N h)
end Hz

/-! Hz, part V: xs[-2::-1]. -/
namespace Hz
open PySem PySem.Spec PyProof.Rows L2 RZ
theorem rev2_bounds (n : Nat) : sliceBounds (some (-2)) none (some (-1)) n = (max ((n : Int) - 2) (-1), -1, -1) := by
  simp [sliceBounds]
  omega
theorem rev2_pick (items : Array Value) : slicePick items (some (-2)) none (some (-1)) = items.toList.dropLast.reverse.toArray := by
  unfold slicePick
  rw [rev2_bounds]
  show ((sliceRange (max ((items.size : Int) - 2) (-1)) (-1) (-1)).filterMap (items[·]?)).toArray = _
  congr 1
  have e : sliceRange (max ((items.size : Int) - 2) (-1)) (-1) (-1) = (List.range (items.size - 1)).map fun k => (items.size - 1) - 1 - k := by
    have := PySem.W.krv_sliceRange (items.size - 1)
    by_cases h : 1 ≤ items.size
    · rw [← this]
      congr 1
      omega
    · rw [← this]
      have : items.size = 0 := by omega
      rw [this]
      rfl
  rw [e, PySem.W.krv_range, List.filterMap_reverse]
  congr 1
  have h := pick_run items 0 (items.size - 1)
  rw [show (List.range (items.size - 1)).map (0 + ·) = List.range (items.size - 1) by
    rw [show ((0 + ·) : Nat → Nat) = id from funext fun k => Nat.zero_add k, List.map_id], List.drop_zero] at h
  rw [List.dropLast_eq_take, Array.length_toList]
  exact h
/-- xs[-2::-1] -/
def tRev2 (K : PySem.W.Frag) (te : TE) : TE := fun σ H Q => te σ H fun x H1 => ∃ a xs, x = .ref a ∧ SqL K H1 a xs ∧ ∀ p, H1 p = none → Q (.ref p) (upd H1 p (.lst xs.dropLast.reverse))
section
variable {X : Cx}
theorem paired_dropLast {R : V → Value → Prop} : ∀ {xs : List V} {ys : List Value}, Paired R xs ys → Paired R xs.dropLast ys.dropLast
  | [], [], _ => .nil
  | [_], [_], _ => .nil
  | _ :: _ :: _, _ :: _ :: _, .cons h (.cons h2 r) => .cons h (paired_dropLast (.cons h2 r))
theorem pe_rev2 {e : Expr} {te : TE} {k k0 : Nat} {p1 p2 p3 p4 p5 pos : Pos} (he : PE X e te) : PE X (.Subscript e (.Slice (some (.UnaryOp .USub (.Constant (.int 2) k0 p4) p5)) none (some (.UnaryOp .USub (.Constant (.int 1) k p1) p2)) p3) pos) (tRev2 X.K te) := by
  refine ⟨fun pins s σ H Q I h => ?_⟩
  refine Subscript_ (thn (he.run pins s σ H _ I h) fun v s1 ⟨x, H1, I1, r1, q1⟩ => ?_)
  obtain ⟨a, xs, ex, hx, q⟩ := q1
  subst ex
  cases r1
  have hst : PO X (some (.UnaryOp .USub (.Constant (.int 1) k p1) p2)) (tPart (tUn (rU fun i => .int (-i)) (tC (.int 1)))) := po_some (pe_un un_neg pe_int)
  have hlo : PO X (some (.UnaryOp .USub (.Constant (.int 2) k0 p4) p5)) (tPart (tUn (rU fun i => .int (-i)) (tC (.int 2)))) := po_some (pe_un un_neg pe_int)
  refine wpAny_Slice (thn (hlo.run pins s1 σ H1 (fun o H2 => o = some (-2) ∧ H2 = H1) I1 ⟨2, rfl, -2, rfl, rfl, rfl⟩) fun vl s2 ⟨l, H2, I2, pl, el, e2⟩ => ?_)
  subst el e2
  refine thn (po_none.run pins s2 σ H2 (fun o H3 => o = none ∧ H3 = H2) I2 ⟨rfl, rfl⟩) fun vu s3 ⟨u, H3, I3, pu, eu, e3⟩ => ?_
  subst eu e3
  refine thn (hst.run pins s3 σ H3 (fun o H4 => o = some (-1) ∧ H4 = H3) I3 ⟨1, rfl, -1, rfl, rfl, rfl⟩) fun vs s4 ⟨o, H4, I4, ps, eo, e4⟩ => ?_
  subst eo e4
  have I5 : Inv X pins σ H4 { s4 with heap := s4.heap.push { cls := .type "slice", data := .fields #[vl, vu, vs] } } := I4.kept (t' := s4.toks) fun b ob q => Heap.get?_push_of_some _ q
  obtain ⟨its, r, ht, hz⟩ := I5.list hx
  have hlen := r.length
  show wpAny (model X.prog X.w) X.A (subscriptTail e (.Slice (some (.UnaryOp .USub (.Constant (.int 2) k0 p4) p5)) none (some (.UnaryOp .USub (.Constant (.int 1) k p1) p2)) p3) (.ref a) (.ref s4.heap.objs.size)) (EP X pins σ Q) X.xe { s4 with heap := s4.heap.push { cls := .type "slice", data := .fields #[vl, vu, vs] } }
  refine tail_any (ops := [.ref a, .ref s4.heap.objs.size]) ht.isList.typeIs (PySem.slot_list_getitem.lookup) ?_ (by with_unfolding_all rfl)
  refine wpAny_getItem_list_slice ht.isList (Heap.IsSliceOf.new _ vl vu vs) pl pu ps (by decide) ?_ (by rw [List.size_toArray]; omega)
  rw [rev2_pick]
  refine ⟨.ref _, _, I5.laid (t' := s4.toks) (o := .lst xs.dropLast.reverse) (fun b ob q => Heap.get?_push_of_some _ q) (Nat.le_refl _) ?_, rfl, q _ (I5.hok.fresh (Nat.le_refl _))⟩
  exact ⟨by rw [List.length_reverse, List.length_dropLast]; omega, _, 0, Vals.reverse (xs := xs.dropLast) (paired_dropLast r), Heap.get?_push_size _ rfl⟩
end
section
variable {L R : Lg} {σ : SS} {Q : VK} {K : PySem.W.Frag} {a : Addr} {xs : List V}
def newRev2 (K : PySem.W.Frag) (x : V) (H : Hp) (Q : VK) : Prop := ∃ a xs, x = .ref a ∧ SqL K H a xs ∧ ∀ p, H p = none → Q (.ref p) (upd H p (.lst xs.dropLast.reverse))
theorem t_rev2L {te : TE} (k : Tr L fun H => te σ H fun x H1 => newRev2 K x H1 Q) : Tr L fun H => tRev2 K te σ H Q := k
theorem t_newRev2 (hp : Pick a (.lst xs) L R) (k : ∀ p, Tr ((p, .lst xs.dropLast.reverse) :: L) fun H => Q (.ref p) H) : Tr L fun H => newRev2 K (.ref a) H Q := fun H l => ⟨a, xs, rfl, sqL hp l, fun p hp' => k p _ (l.new hp')⟩
end
end Hz

/-! Hz, part X: defs that raise, classes of errors without an own __init__, try .. except. -/
namespace Hz
open PySem PySem.Spec PyProof.Rows L2 RZ
/-- a class of errors at C, without an own __init__ -/
structure ExcC (K : PySem.W.Frag) (mg : Str → Option Value) (x : Str) (C : Addr) : Prop where
  g : mg x = some (.ref C)
  k : PySem.W.keepIn K (.ref C) = true
  e : PySem.W.excIn K C [.type "ValueError", .type "Exception", .type "BaseException", .type "object"] "ValueError.__new__" = true
  r : PySem.W.subIn K (.ref C) (.type "BaseException") = some true
  t : PySem.W.typeIn K (.ref C) = some (.type "type")
  te : PySem.W.exmOne K (.ref C) (.ref C) = some true
theorem exm_own {K : PySem.W.Frag} {S C : Addr} {b : Bool} (h1 : PySem.W.subIn K (.ref C) (.type "BaseException") = some true) (h2 : PySem.W.isClsIn K C = true) (h3 : PySem.W.typeIn K (.ref C) = some (.type "type")) (h4 : PySem.W.subIn K (.ref S) (.ref C) = some b) :
    PySem.W.exmOne K (.ref S) (.ref C) = some b := by
  have e1 : (PySem.W.subIn K (.ref C) (.type "BaseException") == some true) = true := by rw [h1] <;> rfl
  have e2 : ((PySem.W.clsIn K C).isSome && PySem.W.typeIn K (.ref C) == some (.type "type")) = true := by
    have h2' : (PySem.W.clsIn K C).isSome = true := h2
    rw [h2', h3] <;> rfl
  show (if (PySem.W.subIn K (.ref C) (.type "BaseException") == some true) = true then (if ((PySem.W.clsIn K C).isSome && PySem.W.typeIn K (.ref C) == some (.type "type")) = true then PySem.W.subIn K (.ref S) (.ref C) else none) else none) = some b
  rw [if_pos e1, if_pos e2]
  exact h4
section
variable {K : PySem.W.Frag} {mg : Str → Option Value} {h : Heap}
theorem exc_mk (X : K.In h) (G : h.Ns mainGlobals mg) {x : Str} {C : Addr} (a : PySem.W.nsIn K mainGlobals x = some (some (.ref C))) (k : PySem.W.keepIn K (.ref C) = true)
    (e : PySem.W.excIn K C [.type "ValueError", .type "Exception", .type "BaseException", .type "object"] "ValueError.__new__" = true) (r : PySem.W.subIn K (.ref C) (.type "BaseException") = some true)
    (t : PySem.W.typeIn K (.ref C) = some (.type "type")) (i : PySem.W.isClsIn K C = true) (s : PySem.W.subIn K (.ref C) (.ref C) = some true) : ∃ C, ExcC K mg x C :=
  ⟨C, PySem.W.mg_of X G a, k, e, r, t, exm_own r i t s⟩
end
/-- nothing is let out: the call is one that does not raise -/
theorem pasX0 {X : Cx} (σ : L2.St) : PassesAt (L2.CX X.prog X.w) X σ (fun _ _ _ => False) := fun _ _ _ _ _ _ h => by
  obtain ⟨_, _, _, _, _, _, _, _, _, _, _, _, z⟩ := h
  exact z.elim
/-- raise C('..') -/
theorem pe_mk {X : Cx} {x m : Str} {C : Addr} {j : Nat} {p p2 pos : Pos} (T : ExcC X.K X.mg x C) (hg : Gl X x := by rfl) (hdb : (x == ("__debug__" : Str)) = false := by decide) : PMk X (.Call (.Name x p) [.Constant (.str m) j p2] [] pos) (fun _ H Q => Q (.ref C) none H) :=
  pmk_own PySem.F.excBase_ValueError T.e T.g T.k (raises_own T.r T.t) hg hdb
section
variable {K : PySem.W.Frag} {L : Lg} {σ : SS} {D : Ends} {c cls : Value} {d : Option Addr} {ts : Addr → Value → Option Addr → TS} {Wout : WX}
/-- the clause's own class -/
theorem t_only (b : PySem.W.exmOne K cls c = some true) (k : ∀ a, Tr L fun H => ts a cls d D σ H) : Tr L fun H => wOnly K c ts Wout D cls d σ H :=
  fun H l => ⟨true, b, fun _ a _ => k a H l, fun e => nomatch e⟩
end
end Hz

/-! Hz, part Z: zip of three lists. -/
namespace Hz
open PySem PySem.Spec PyProof.Rows L2 RZ
/-- three in a tuple -/
abbrev IsTri (h : Heap) (T : Addr) (a b c : Value) : Prop := h.get? T = some { cls := .type "tuple", data := .seq #[a, b, c] }
/-- all apart -/
structure Ap3 (z TI TO i1 i2 i3 l1 l2 l3 : Addr) : Prop where
  zTI : z ≠ TI
  zTO : z ≠ TO
  zi1 : z ≠ i1
  zi2 : z ≠ i2
  zi3 : z ≠ i3
  TITO : TI ≠ TO
  TIi1 : TI ≠ i1
  TIi2 : TI ≠ i2
  TIi3 : TI ≠ i3
  TOi1 : TO ≠ i1
  TOi2 : TO ≠ i2
  TOi3 : TO ≠ i3
  i1i2 : i1 ≠ i2
  i1i3 : i1 ≠ i3
  i2i3 : i2 ≠ i3
  l1z : l1 ≠ z
  l1TO : l1 ≠ TO
  l1i1 : l1 ≠ i1
  l1i2 : l1 ≠ i2
  l1i3 : l1 ≠ i3
  l2z : l2 ≠ z
  l2TO : l2 ≠ TO
  l2i1 : l2 ≠ i1
  l2i2 : l2 ≠ i2
  l2i3 : l2 ≠ i3
  l3z : l3 ≠ z
  l3TO : l3 ≠ TO
  l3i1 : l3 ≠ i1
  l3i2 : l3 ≠ i2
  l3i3 : l3 ≠ i3
theorem Ap3.fresh {n a b c : Nat} (ha : a < n) (hb : b < n) (hc : c < n) : Ap3 (n + 5) (n + 3) (n + 4) n (n + 1) (n + 2) a b c := by
  constructor <;> (intro h; have h' : (_ : Nat) = _ := h; omega)
section
variable {prog : Program} {w : World} {A : Around} {E : Value → Shared → Prop} {s : Shared}
theorem tri_set {T : Addr} {a b c x : Value} {k : Nat} {Q : Unit → Shared → Prop} (hT : IsTri s.heap T a b c)
    (h : ∀ h', h'.get? T = some { cls := .type "tuple", data := .seq ((#[a, b, c] : Array Value).setIfInBounds k x) } → Heap.SameBut T s.heap h' → Q () { s with heap := h' }) :
    wpAny (model prog w) A (updateSeq T (·.setIfInBounds k x)) Q E s := by
  refine wpAny_updateSeq hT rfl (h _ ?_ (Heap.SameBut.update ..))
  rw [Heap.get?_update_self _ hT rfl]
  simp [Obj.mapSeq]
theorem zip3_item {z TI TO i1 i2 i3 l1 l2 l3 : Addr} {k1 k2 k3 : Nat} {xs ys zs : Array Value} {x y v a b c : Value} {Q : Value → Shared → Prop} (D : Ap3 z TI TO i1 i2 i3 l1 l2 l3)
    (hz : IsZip s.heap z TI TO .none) (hTI : IsTri s.heap TI (.ref i1) (.ref i2) (.ref i3)) (hTO : IsTri s.heap TO a b c)
    (h1 : s.heap.IsListIter i1 l1 k1) (h2 : s.heap.IsListIter i2 l2 k2) (h3 : s.heap.IsListIter i3 l3 k3) (hl1 : s.heap.IsList l1 xs) (hl2 : s.heap.IsList l2 ys) (hl3 : s.heap.IsList l3 zs) (hx : xs[k1]? = some x) (hy : ys[k2]? = some y) (hv : zs[k3]? = some v)
    (hQ : ∀ h', IsZip h' z TI TO (rawInt s.heap.objs.size) → IsTri h' TO x y v → h'.IsListIter i1 l1 (k1 + 1) → h'.IsListIter i2 l2 (k2 + 1) → h'.IsListIter i3 l3 (k3 + 1) → IsTri h' s.heap.objs.size x y v → h'.objs.size = s.heap.objs.size + 1 →
      (∀ c o, c ≠ z → c ≠ TO → c ≠ i1 → c ≠ i2 → c ≠ i3 → s.heap.get? c = some o → h'.get? c = some o) → Q (.ref s.heap.objs.size) { s with heap := h' }) :
    wpAny (model prog w) A (Builtin.«zip.__next__» ⟨[.ref z], []⟩) (fun fin s' => ∃ v, fin = .done (.ret v) ∧ Q v s') E s := by
  show wpAny _ _ (field (.ref z) 2 >>= _) _ _ _
  refine wpAny_bind (wpAny_field hz rfl (x := .bool false) rfl ?_)
  show wpAny _ _ (field (.ref z) 3 >>= _) _ _ _
  refine wpAny_bind (wpAny_field hz rfl (x := .ref TI) rfl ?_)
  refine wpAny_bind (wpAny_seqItems hTI rfl ?_)
  show wpAny _ _ (Builtin.SmallTypes.ownedTupleIsFree (.ref z) >>= _) _ _ _
  refine wpAny_bind ?_
  unfold Builtin.SmallTypes.ownedTupleIsFree
  refine wpAny_bind (wpAny_field hz rfl (x := .none) rfl (wpAny_pure ?_))
  simp only [if_true]
  refine wpAny_bind (wpAny_rule ?_)
  refine wpAny_bind (wpAny_field hz rfl (x := .ref TO) rfl ?_)
  refine wpAny_bind (wpAny_setField_rec hz (by simp) fun h₁ hz₁ hs₁ => ?_)
  replace hz₁ : IsZip h₁ z TI TO .ellipsis := hz₁
  refine wpAny_bind ?_
  simp only [List.zipIdx_cons, List.zipIdx_nil, List.forIn_cons, List.forIn_nil]
  refine wpAny_bind (wpAny_bind (wpAny_onRaise ?_))
  show wpAny _ _ (Builtin.SmallTypes.nextOf (.ref i1) >>= _) _ _ _
  refine wpAny_bind (wpAny_nextOf_list_item (h1.extBut hs₁.extBut (Ne.symm D.zi1)) (hl1.extBut hs₁.extBut D.l1z) hx fun h₂ h1₂ hs₂ => wpAny_pure ?_)
  have hTO₂ : IsTri h₂ TO a b c := hs₂.extBut _ _ D.TOi1 (hs₁.extBut _ _ (Ne.symm D.zTO) hTO)
  refine wpAny_bind (wpAny_seqItems hTO₂ rfl ?_)
  refine wpAny_bind (tri_set hTO₂ fun h₃ hTO₃ hs₃ => ?_)
  replace hTO₃ : IsTri h₃ TO x b c := hTO₃
  refine wpAny_bind (wpAny_letGo (wpAny_pure ?_))
  refine wpAny_bind (wpAny_bind (wpAny_onRaise ?_))
  show wpAny _ _ (Builtin.SmallTypes.nextOf (.ref i2) >>= _) _ _ _
  refine wpAny_bind (wpAny_nextOf_list_item (((h2.extBut hs₁.extBut (Ne.symm D.zi2)).extBut hs₂.extBut (Ne.symm D.i1i2)).extBut hs₃.extBut (Ne.symm D.TOi2)) (((hl2.extBut hs₁.extBut D.l2z).extBut hs₂.extBut D.l2i1).extBut hs₃.extBut D.l2TO) hy fun h₄ h2₄ hs₄ => wpAny_pure ?_)
  have hTO₄ : IsTri h₄ TO x b c := hs₄.extBut _ _ D.TOi2 hTO₃
  refine wpAny_bind (wpAny_seqItems hTO₄ rfl ?_)
  refine wpAny_bind (tri_set hTO₄ fun h₅ hTO₅ hs₅ => ?_)
  replace hTO₅ : IsTri h₅ TO x y c := hTO₅
  refine wpAny_bind (wpAny_letGo (wpAny_pure ?_))
  refine wpAny_bind (wpAny_bind (wpAny_onRaise ?_))
  show wpAny _ _ (Builtin.SmallTypes.nextOf (.ref i3) >>= _) _ _ _
  refine wpAny_bind (wpAny_nextOf_list_item (((((h3.extBut hs₁.extBut (Ne.symm D.zi3)).extBut hs₂.extBut (Ne.symm D.i1i3)).extBut hs₃.extBut (Ne.symm D.TOi3)).extBut hs₄.extBut (Ne.symm D.i2i3)).extBut hs₅.extBut (Ne.symm D.TOi3)) (((((hl3.extBut hs₁.extBut D.l3z).extBut hs₂.extBut D.l3i1).extBut hs₃.extBut D.l3TO).extBut hs₄.extBut D.l3i2).extBut hs₅.extBut D.l3TO) hv fun h₆ h3₆ hs₆ => wpAny_pure ?_)
  have hTO₆ : IsTri h₆ TO x y c := hs₆.extBut _ _ D.TOi3 hTO₅
  refine wpAny_bind (wpAny_seqItems hTO₆ rfl ?_)
  refine wpAny_bind (tri_set hTO₆ fun h₇ hTO₇ hs₇ => ?_)
  replace hTO₇ : IsTri h₇ TO x y v := hTO₇
  refine wpAny_bind (wpAny_letGo (wpAny_pure (wpAny_pure ?_)))
  refine wpAny_bind (wpAny_seqItems hTO₇ rfl ?_)
  refine wpAny_bind (wpAny_newTuple ?_)
  have hsz : h₇.objs.size = s.heap.objs.size := by rw [hs₇.1, hs₆.1, hs₅.1, hs₄.1, hs₃.1, hs₂.1, hs₁.1]
  have hz₇ : IsZip h₇ z TI TO .ellipsis := (hs₇.extBut _ _ D.zTO (hs₆.extBut _ _ D.zi3 (hs₅.extBut _ _ D.zTO (hs₄.extBut _ _ D.zi2 (hs₃.extBut _ _ D.zTO (hs₂.extBut _ _ D.zi1 hz₁))))))
  have hk : ∀ c o, c ≠ z → c ≠ TO → c ≠ i1 → c ≠ i2 → c ≠ i3 → s.heap.get? c = some o → h₇.get? c = some o := fun c o c1 c2 c3 c4 c5 e =>
    (hs₇.extBut _ _ c2 (hs₆.extBut _ _ c5 (hs₅.extBut _ _ c2 (hs₄.extBut _ _ c4 (hs₃.extBut _ _ c2 (hs₂.extBut _ _ c3 (hs₁.extBut _ _ c1 e)))))))
  have e1 : h₇.IsListIter i1 l1 (k1 + 1) := (((((h1₂.extBut hs₃.extBut (Ne.symm D.TOi1)).extBut hs₄.extBut D.i1i2).extBut hs₅.extBut (Ne.symm D.TOi1)).extBut hs₆.extBut D.i1i3).extBut hs₇.extBut (Ne.symm D.TOi1))
  have e2 : h₇.IsListIter i2 l2 (k2 + 1) := (((h2₄.extBut hs₅.extBut (Ne.symm D.TOi2)).extBut hs₆.extBut D.i2i3).extBut hs₇.extBut (Ne.symm D.TOi2))
  have e3 : h₇.IsListIter i3 l3 (k3 + 1) := (h3₆.extBut hs₇.extBut (Ne.symm D.TOi3))
  have hzlt : z < h₇.objs.size := Heap.lt_size hz₇
  show wpAny _ _ (Builtin.SmallTypes.ownedTupleHandOut (.ref z) (.ref h₇.objs.size) >>= _) _ _ _
  refine wpAny_bind ?_
  unfold Builtin.SmallTypes.ownedTupleHandOut
  have hz₈ : IsZip (h₇.push { cls := .type "tuple", data := .seq #[x, y, v] }) z TI TO .ellipsis := Heap.get?_push_of_some _ hz₇
  refine wpAny_bind (wpAny_setField_rec hz₈ (by simp) fun h₉ hz₉ hs₉ => ?_)
  replace hz₉ : IsZip h₉ z TI TO (rawInt h₇.objs.size) := hz₉
  refine wpAny_setField_rec hz₉ (by simp) fun g hg hs => ?_
  replace hg : IsZip g z TI TO (rawInt h₇.objs.size) := hg
  have up : ∀ c o, c ≠ z → h₇.get? c = some o → g.get? c = some o := fun c o c1 e => hs.extBut _ _ c1 (hs₉.extBut _ _ c1 (Heap.get?_push_of_some _ e))
  have hT : IsTri g h₇.objs.size x y v := hs.extBut _ _ (Nat.ne_of_gt hzlt) (hs₉.extBut _ _ (Nat.ne_of_gt hzlt) (Heap.get?_push_size _ rfl))
  have hn : g.objs.size = h₇.objs.size + 1 := by rw [hs.1, hs₉.1, Heap.size_push]
  rw [hsz] at hg hT hn
  refine wpAny_pure ⟨_, rfl, ?_⟩
  show Q (.ref h₇.objs.size) _
  rw [hsz]
  exact hQ g hg (up _ _ (Ne.symm D.zTO) hTO₇) (e1.at fun o e => up _ o (Ne.symm D.zi1) e) (e2.at fun o e => up _ o (Ne.symm D.zi2) e) (e3.at fun o e => up _ o (Ne.symm D.zi3) e) hT hn fun c o c1 c2 c3 c4 c5 e => up c o c1 (hk c o c1 c2 c3 c4 c5 e)
theorem zip3_end {z TI TO i1 i2 i3 l1 l2 l3 : Addr} {k1 k2 k3 : Nat} {xs ys zs : Array Value} {a b c : Value} {Q : Fin → Shared → Prop} (hh : A.handled = none) (D : Ap3 z TI TO i1 i2 i3 l1 l2 l3)
    (hz : IsZip s.heap z TI TO .none) (hTI : IsTri s.heap TI (.ref i1) (.ref i2) (.ref i3)) (hTO : IsTri s.heap TO a b c)
    (h1 : s.heap.IsListIter i1 l1 k1) (h2 : s.heap.IsListIter i2 l2 k2) (h3 : s.heap.IsListIter i3 l3 k3) (hl1 : s.heap.IsList l1 xs) (hl2 : s.heap.IsList l2 ys) (hl3 : s.heap.IsList l3 zs) (hend : xs[k1]? = none ∨ ys[k2]? = none ∨ zs[k3]? = none)
    (hE : ∀ h' e, (∀ c o, c ≠ z → c ≠ TO → c ≠ i1 → c ≠ i2 → c ≠ i3 → s.heap.get? c = some o → h'.get? c = some o) → (∃ o, h'.get? e = some o ∧ o.cls = .type "StopIteration") → E (.ref e) { s with heap := h' }) :
    wpAny (model prog w) A (Builtin.«zip.__next__» ⟨[.ref z], []⟩) Q E s := by
  show wpAny _ _ (field (.ref z) 2 >>= _) _ _ _
  refine wpAny_bind (wpAny_field hz rfl (x := .bool false) rfl ?_)
  show wpAny _ _ (field (.ref z) 3 >>= _) _ _ _
  refine wpAny_bind (wpAny_field hz rfl (x := .ref TI) rfl ?_)
  refine wpAny_bind (wpAny_seqItems hTI rfl ?_)
  show wpAny _ _ (Builtin.SmallTypes.ownedTupleIsFree (.ref z) >>= _) _ _ _
  refine wpAny_bind ?_
  unfold Builtin.SmallTypes.ownedTupleIsFree
  refine wpAny_bind (wpAny_field hz rfl (x := .none) rfl (wpAny_pure ?_))
  simp only [if_true]
  refine wpAny_bind (wpAny_rule ?_)
  refine wpAny_bind (wpAny_field hz rfl (x := .ref TO) rfl ?_)
  refine wpAny_bind (wpAny_setField_rec hz (by simp) fun h₁ hz₁ hs₁ => ?_)
  replace hz₁ : IsZip h₁ z TI TO .ellipsis := hz₁
  refine wpAny_bind ?_
  simp only [List.zipIdx_cons, List.zipIdx_nil, List.forIn_cons, List.forIn_nil]
  cases hx : xs[k1]? with
  | none =>
    refine wpAny_bind (wpAny_bind (wpAny_onRaise ?_))
    show wpAny _ _ (Builtin.SmallTypes.nextOf (.ref i1) >>= _) _ _ _
    refine wpAny_bind (wpAny_nextOf_list_end hh (h1.extBut hs₁.extBut (Ne.symm D.zi1)) (hl1.extBut hs₁.extBut D.l1z) hx fun g e hg he => ?_)
    obtain ⟨oe, hoe, hce⟩ := he
    have hzg : IsZip g z TI TO .ellipsis := hg _ _ D.zi1 hz₁
    have hez : e ≠ z := fun x => by subst x; rw [hzg] at hoe; cases hoe; simp at hce
    refine wpAny_setField_rec hzg (by simp) fun q _ hq => hE q e (fun c o c1 c2 c3 c4 c5 x => hq.extBut _ _ c1 (hg _ _ c3 (hs₁.extBut _ _ c1 x))) ⟨oe, hq.extBut _ _ hez hoe, hce⟩
  | some x =>
    refine wpAny_bind (wpAny_bind (wpAny_onRaise ?_))
    show wpAny _ _ (Builtin.SmallTypes.nextOf (.ref i1) >>= _) _ _ _
    refine wpAny_bind (wpAny_nextOf_list_item (h1.extBut hs₁.extBut (Ne.symm D.zi1)) (hl1.extBut hs₁.extBut D.l1z) hx fun h₂ h1₂ hs₂ => wpAny_pure ?_)
    have hTO₂ : IsTri h₂ TO a b c := hs₂.extBut _ _ D.TOi1 (hs₁.extBut _ _ (Ne.symm D.zTO) hTO)
    refine wpAny_bind (wpAny_seqItems hTO₂ rfl ?_)
    refine wpAny_bind (tri_set hTO₂ fun h₃ hTO₃ hs₃ => ?_)
    replace hTO₃ : IsTri h₃ TO x b c := hTO₃
    refine wpAny_bind (wpAny_letGo (wpAny_pure ?_))
    cases hy : ys[k2]? with
    | none =>
      refine wpAny_bind (wpAny_bind (wpAny_onRaise ?_))
      show wpAny _ _ (Builtin.SmallTypes.nextOf (.ref i2) >>= _) _ _ _
      refine wpAny_bind (wpAny_nextOf_list_end hh (((h2.extBut hs₁.extBut (Ne.symm D.zi2)).extBut hs₂.extBut (Ne.symm D.i1i2)).extBut hs₃.extBut (Ne.symm D.TOi2)) (((hl2.extBut hs₁.extBut D.l2z).extBut hs₂.extBut D.l2i1).extBut hs₃.extBut D.l2TO) hy fun g e hg he => ?_)
      obtain ⟨oe, hoe, hce⟩ := he
      have hzg : IsZip g z TI TO .ellipsis := hg _ _ D.zi2 (hs₃.extBut _ _ D.zTO (hs₂.extBut _ _ D.zi1 hz₁))
      have hez : e ≠ z := fun x => by subst x; rw [hzg] at hoe; cases hoe; simp at hce
      refine wpAny_setField_rec hzg (by simp) fun q _ hq => hE q e (fun c o c1 c2 c3 c4 c5 x => hq.extBut _ _ c1 (hg _ _ c4 (hs₃.extBut _ _ c2 (hs₂.extBut _ _ c3 (hs₁.extBut _ _ c1 x))))) ⟨oe, hq.extBut _ _ hez hoe, hce⟩
    | some y =>
      refine wpAny_bind (wpAny_bind (wpAny_onRaise ?_))
      show wpAny _ _ (Builtin.SmallTypes.nextOf (.ref i2) >>= _) _ _ _
      refine wpAny_bind (wpAny_nextOf_list_item (((h2.extBut hs₁.extBut (Ne.symm D.zi2)).extBut hs₂.extBut (Ne.symm D.i1i2)).extBut hs₃.extBut (Ne.symm D.TOi2)) (((hl2.extBut hs₁.extBut D.l2z).extBut hs₂.extBut D.l2i1).extBut hs₃.extBut D.l2TO) hy fun h₄ h2₄ hs₄ => wpAny_pure ?_)
      have hTO₄ : IsTri h₄ TO x b c := hs₄.extBut _ _ D.TOi2 hTO₃
      refine wpAny_bind (wpAny_seqItems hTO₄ rfl ?_)
      refine wpAny_bind (tri_set hTO₄ fun h₅ hTO₅ hs₅ => ?_)
      replace hTO₅ : IsTri h₅ TO x y c := hTO₅
      refine wpAny_bind (wpAny_letGo (wpAny_pure ?_))
      cases hv : zs[k3]? with
      | none =>
        refine wpAny_bind (wpAny_bind (wpAny_onRaise ?_))
        show wpAny _ _ (Builtin.SmallTypes.nextOf (.ref i3) >>= _) _ _ _
        refine wpAny_bind (wpAny_nextOf_list_end hh (((((h3.extBut hs₁.extBut (Ne.symm D.zi3)).extBut hs₂.extBut (Ne.symm D.i1i3)).extBut hs₃.extBut (Ne.symm D.TOi3)).extBut hs₄.extBut (Ne.symm D.i2i3)).extBut hs₅.extBut (Ne.symm D.TOi3)) (((((hl3.extBut hs₁.extBut D.l3z).extBut hs₂.extBut D.l3i1).extBut hs₃.extBut D.l3TO).extBut hs₄.extBut D.l3i2).extBut hs₅.extBut D.l3TO) hv fun g e hg he => ?_)
        obtain ⟨oe, hoe, hce⟩ := he
        have hzg : IsZip g z TI TO .ellipsis := hg _ _ D.zi3 (hs₅.extBut _ _ D.zTO (hs₄.extBut _ _ D.zi2 (hs₃.extBut _ _ D.zTO (hs₂.extBut _ _ D.zi1 hz₁))))
        have hez : e ≠ z := fun x => by subst x; rw [hzg] at hoe; cases hoe; simp at hce
        refine wpAny_setField_rec hzg (by simp) fun q _ hq => hE q e (fun c o c1 c2 c3 c4 c5 x => hq.extBut _ _ c1 (hg _ _ c5 (hs₅.extBut _ _ c2 (hs₄.extBut _ _ c4 (hs₃.extBut _ _ c2 (hs₂.extBut _ _ c3 (hs₁.extBut _ _ c1 x))))))) ⟨oe, hq.extBut _ _ hez hoe, hce⟩
      | some v =>
        rcases hend with h | h | h
        · rw [hx] at h; cases h
        · rw [hy] at h; cases h
        · rw [hv] at h; cases h
theorem next_zip3_item {z TI TO i1 i2 i3 l1 l2 l3 : Addr} {k1 k2 k3 : Nat} {xs ys zs : Array Value} {x y v a b c : Value} {Q : Option Value → Shared → Prop} (D : Ap3 z TI TO i1 i2 i3 l1 l2 l3)
    (hz : IsZip s.heap z TI TO .none) (hTI : IsTri s.heap TI (.ref i1) (.ref i2) (.ref i3)) (hTO : IsTri s.heap TO a b c)
    (h1 : s.heap.IsListIter i1 l1 k1) (h2 : s.heap.IsListIter i2 l2 k2) (h3 : s.heap.IsListIter i3 l3 k3) (hl1 : s.heap.IsList l1 xs) (hl2 : s.heap.IsList l2 ys) (hl3 : s.heap.IsList l3 zs) (hx : xs[k1]? = some x) (hy : ys[k2]? = some y) (hv : zs[k3]? = some v)
    (hQ : ∀ h', IsZip h' z TI TO (rawInt s.heap.objs.size) → IsTri h' TO x y v → h'.IsListIter i1 l1 (k1 + 1) → h'.IsListIter i2 l2 (k2 + 1) → h'.IsListIter i3 l3 (k3 + 1) → IsTri h' s.heap.objs.size x y v → h'.objs.size = s.heap.objs.size + 1 →
      (∀ c o, c ≠ z → c ≠ TO → c ≠ i1 → c ≠ i2 → c ≠ i3 → s.heap.get? c = some o → h'.get? c = some o) → Q (some (.ref s.heap.objs.size)) { s with heap := h' }) :
    wpAny (model prog w) A (pyNext (.ref z)) Q E s := by
  have hT : s.TypeIs (.ref z) "zip" := ⟨_, hz, rfl⟩
  unfold pyNext
  exact wpAny_bind (wpAny_attempt (wpAny_callSpecial?_slot (name := Str.ofString "__next__") hT PySem.F.slot_zip_next
    (wpAny_call_entry PySem.F.slot_zip_next hT PySem.F.entry_zip_next
      (zip3_item D hz hTI hTO h1 h2 h3 hl1 hl2 hl3 hx hy hv fun h' a1 a2 a3 a4 a5 a6 a7 a8 => wpAny_pure (hQ h' a1 a2 a3 a4 a5 a6 a7 a8)) (PySem.F.args_zip_next_1 _))))
theorem next_zip3_end {z TI TO i1 i2 i3 l1 l2 l3 : Addr} {k1 k2 k3 : Nat} {xs ys zs : Array Value} {a b c : Value} {Q : Option Value → Shared → Prop} (hh : A.handled = none) (D : Ap3 z TI TO i1 i2 i3 l1 l2 l3)
    (hz : IsZip s.heap z TI TO .none) (hTI : IsTri s.heap TI (.ref i1) (.ref i2) (.ref i3)) (hTO : IsTri s.heap TO a b c)
    (h1 : s.heap.IsListIter i1 l1 k1) (h2 : s.heap.IsListIter i2 l2 k2) (h3 : s.heap.IsListIter i3 l3 k3) (hl1 : s.heap.IsList l1 xs) (hl2 : s.heap.IsList l2 ys) (hl3 : s.heap.IsList l3 zs) (hend : xs[k1]? = none ∨ ys[k2]? = none ∨ zs[k3]? = none)
    (hQ : ∀ h', (∀ c o, c ≠ z → c ≠ TO → c ≠ i1 → c ≠ i2 → c ≠ i3 → s.heap.get? c = some o → h'.get? c = some o) → Q none { s with heap := h' }) : wpAny (model prog w) A (pyNext (.ref z)) Q E s := by
  have hT : s.TypeIs (.ref z) "zip" := ⟨_, hz, rfl⟩
  unfold pyNext
  refine wpAny_bind (wpAny_attempt (wpAny_callSpecial?_slot (name := Str.ofString "__next__") hT PySem.F.slot_zip_next
    (wpAny_call_entry PySem.F.slot_zip_next hT PySem.F.entry_zip_next (zip3_end hh D hz hTI hTO h1 h2 h3 hl1 hl2 hl3 hend fun h' e hk he => ?_) (PySem.F.args_zip_next_1 _))))
  obtain ⟨o, ho, hc⟩ := he
  refine wpAny_bind (wpAny_isInstance (T := "StopIteration") (b := true) ⟨o, ho, hc⟩ isSubtype_stop ?_)
  exact wpAny_pure (hQ _ hk)
end
abbrev z3H1 (h : Heap) (l1 : Addr) : Heap := h.push { cls := .type "list_iterator", data := .fields #[.ref l1, .int 0 0] }
abbrev z3H2 (h : Heap) (l1 l2 : Addr) : Heap := (z3H1 h l1).push { cls := .type "list_iterator", data := .fields #[.ref l2, .int 0 0] }
abbrev z3H3 (h : Heap) (l1 l2 l3 : Addr) : Heap := (z3H2 h l1 l2).push { cls := .type "list_iterator", data := .fields #[.ref l3, .int 0 0] }
abbrev z3H4 (h : Heap) (l1 l2 l3 : Addr) : Heap := (z3H3 h l1 l2 l3).push { cls := .type "tuple", data := .seq #[.ref h.objs.size, .ref (z3H1 h l1).objs.size, .ref (z3H2 h l1 l2).objs.size] }
abbrev z3H5 (h : Heap) (l1 l2 l3 : Addr) : Heap := (z3H4 h l1 l2 l3).push { cls := .type "tuple", data := .seq #[.none, .none, .none] }
abbrev z3H6 (h : Heap) (l1 l2 l3 : Addr) : Heap := (z3H5 h l1 l2 l3).push { cls := .type "zip", data := .fields #[.none, .bool false, .bool false, .ref (z3H3 h l1 l2 l3).objs.size, .ref (z3H4 h l1 l2 l3).objs.size] }
theorem meets_zip3 (l1 l2 l3 : Addr) (xs ys zs : Array Value) :
    Meets (Builtin.«zip.__new__» ⟨[.type "zip", .ref l1, .ref l2, .ref l3], []⟩) (fun _ R s => s.heap.IsList l1 xs ∧ s.heap.IsList l2 ys ∧ s.heap.IsList l3 zs ∧
      R (.ok (.ret (.ref (z3H5 s.heap l1 l2 l3).objs.size))) { s with heap := z3H6 s.heap l1 l2 l3 }) :=
  .of_wp fun prog w A R s h => by
    obtain ⟨hp, g, d, tk, os⟩ := s; obtain ⟨hl1, hl2, hl3, h⟩ := h
    have hsub := sub_zip
    have hL1 : Heap.IsList (Shared.heap ⟨hp, g, d, tk, os⟩) l1 xs := hl1
    have hL2 : Heap.IsList (Shared.heap ⟨hp.push { cls := .type "list_iterator", data := .fields #[.ref l1, .int 0 0] }, g, d, tk, os⟩) l2 ys := Heap.IsList.push hl2 _
    have hL3 : Heap.IsList (Shared.heap ⟨(hp.push { cls := .type "list_iterator", data := .fields #[.ref l1, .int 0 0] }).push { cls := .type "list_iterator", data := .fields #[.ref l2, .int 0 0] }, g, d, tk, os⟩) l3 zs := Heap.IsList.push (Heap.IsList.push hl3 _) _
    wp_walk using wpAny_pyIter_list hL1, wpAny_pyIter_list hL2, wpAny_pyIter_list hL3
    exact ⟨_, rfl, h⟩
theorem typeCall_zip_3 (a b c : Value) : checkTypeCall "zip" ⟨[a, b, c], []⟩ = pure () := by kernel_rfl
theorem newCall_zip_3 (a b c : Value) : checkBuiltinCall "zip.__new__" ⟨[.type "zip", a, b, c], []⟩ = pure () := by kernel_rfl
theorem args_object_init_4 (a b c d : Value) : argsOk "object.__init__" ⟨[a, b, c, d], []⟩ := by
  unfold argsOk; rw [signature?_of (id := "object.__init__") (n := ['_', '_', 't', 'i', 'n', 'i', '_', '_']) (o := ['t', 'c', 'e', 'j', 'b', 'o']) (by kernel_rfl) PySem.F.owner_object]; kernel_rfl
section
variable {prog : Program} {w : World} {A : Around} {E : Value → Shared → Prop} {s : Shared}
theorem call_zip3 {l1 l2 l3 : Addr} {xs ys zs : Array Value} {Q : Value → Shared → Prop} (hl1 : s.heap.IsList l1 xs) (hl2 : s.heap.IsList l2 ys) (hl3 : s.heap.IsList l3 zs)
    (h : ∀ h', IsZip h' (s.heap.objs.size + 5) (s.heap.objs.size + 3) (s.heap.objs.size + 4) .none → IsTri h' (s.heap.objs.size + 3) (.ref s.heap.objs.size) (.ref (s.heap.objs.size + 1)) (.ref (s.heap.objs.size + 2)) →
      IsTri h' (s.heap.objs.size + 4) .none .none .none → h'.IsListIter s.heap.objs.size l1 0 → h'.IsListIter (s.heap.objs.size + 1) l2 0 → h'.IsListIter (s.heap.objs.size + 2) l3 0 →
      (∀ c o, s.heap.get? c = some o → h'.get? c = some o) → Q (.ref (s.heap.objs.size + 5)) { s with heap := h' }) :
    wpAny (model prog w) A (call (.type "zip") [.ref l1, .ref l2, .ref l3]) Q E s := by
  refine callType_new PySem.F.called_zip (by decide) (typeCall_zip_3 _ _ _) (newCall_zip_3 _ _ _) (fun obj => args_object_init_4 obj _ _ _) PySem.F.entry_zip_new
    (meets_zip3 l1 l2 l3 xs ys zs) ⟨hl1, hl2, hl3, ?_⟩
  have z1 : (z3H1 s.heap l1).objs.size = s.heap.objs.size + 1 := Heap.size_push ..
  have z2 : (z3H2 s.heap l1 l2).objs.size = s.heap.objs.size + 2 := by rw [Heap.size_push, z1]
  have z3 : (z3H3 s.heap l1 l2 l3).objs.size = s.heap.objs.size + 3 := by rw [Heap.size_push, z2]
  have z4 : (z3H4 s.heap l1 l2 l3).objs.size = s.heap.objs.size + 4 := by rw [Heap.size_push, z3]
  have z5 : (z3H5 s.heap l1 l2 l3).objs.size = s.heap.objs.size + 5 := by rw [Heap.size_push, z4]
  have p : ∀ {h : Heap} {a : Addr} {q : Obj} (o : Obj), h.get? a = some q → (h.push o).get? a = some q := fun o e => Heap.get?_push_of_some _ e
  have g6 : (z3H6 s.heap l1 l2 l3).get? (z3H5 s.heap l1 l2 l3).objs.size = some _ := Heap.get?_push_size _ rfl
  have g5 : (z3H6 s.heap l1 l2 l3).get? (z3H4 s.heap l1 l2 l3).objs.size = some _ := p _ (Heap.get?_push_size _ rfl)
  have g4 : (z3H6 s.heap l1 l2 l3).get? (z3H3 s.heap l1 l2 l3).objs.size = some _ := p _ (p _ (Heap.get?_push_size _ rfl))
  have g3 : (z3H6 s.heap l1 l2 l3).get? (z3H2 s.heap l1 l2).objs.size = some _ := p _ (p _ (p _ (Heap.get?_push_size _ rfl)))
  have g2 : (z3H6 s.heap l1 l2 l3).get? (z3H1 s.heap l1).objs.size = some _ := p _ (p _ (p _ (p _ (Heap.get?_push_size _ rfl))))
  have g1 : (z3H6 s.heap l1 l2 l3).get? s.heap.objs.size = some _ := p _ (p _ (p _ (p _ (p _ (Heap.get?_push_size _ rfl)))))
  show _ ∧ _
  rw [z3, z4, z5] at g6
  rw [z4] at g5
  rw [z1, z2, z3] at g4
  rw [z2] at g3
  rw [z1] at g2
  rw [z5]
  exact ⟨⟨_, g6, rfl⟩, h _ g6 g4 g5 ⟨_, g1, rfl, rfl⟩ ⟨_, g2, rfl, rfl⟩ ⟨_, g3, rfl, rfl⟩ fun c o x => p _ (p _ (p _ (p _ (p _ (p _ x)))))⟩
end
/-- the lists at a, b, c as they stand at each turn, the items in new tuples -/
def Itz3 (K : PySem.W.Frag) (a b c : Addr) : It :=
  ⟨fun i H => ∃ (xs ys zs : List V) (x y v : V), SqL K H a xs ∧ SqL K H b ys ∧ SqL K H c zs ∧ xs[i]? = some x ∧ ys[i]? = some y ∧ zs[i]? = some v,
    fun i H u H' => ∃ T x y v, u = .ref T ∧ H T = none ∧ H' = upd H T (.tup [x, y, v]) ∧ (∀ xs, SqL K H a xs → xs[i]? = some x) ∧ (∀ ys, SqL K H b ys → ys[i]? = some y) ∧ ∀ zs, SqL K H c zs → zs[i]? = some v,
    fun i H => ∃ xs ys zs : List V, SqL K H a xs ∧ SqL K H b ys ∧ SqL K H c zs ∧ (xs.length ≤ i ∨ ys.length ≤ i ∨ zs.length ≤ i)⟩
theorem turn_zip3 {P : Program} {w : World} {K : PySem.W.Frag} {elts : List Expr} {kk : Nat} {tpos : Pos} {l1 l2 l3 z TI TO i1 i2 i3 : Addr} (D : Ap3 z TI TO i1 i2 i3 l1 l2 l3) :
    Turn P w K (.Tuple elts kk tpos) (Itz3 K l1 l2 l3) [z, TI, TO, i1, i2, i3] z (fun i h => IsZip h z TI TO .none ∧ IsTri h TI (.ref i1) (.ref i2) (.ref i3) ∧ (∃ x y v, IsTri h TO x y v) ∧ h.IsListIter i1 l1 i ∧ h.IsListIter i2 l2 i ∧ h.IsListIter i3 l3 i) where
  mem := by simp
  obj := fun i h st c hc => by
    obtain ⟨hz, hTI, ⟨x, y, v, hTO⟩, ⟨o1, e1, _, d1⟩, ⟨o2, e2, _, d2⟩, ⟨o3, e3, _, d3⟩⟩ := st
    have e' : c = z ∨ c = TI ∨ c = TO ∨ c = i1 ∨ c = i2 ∨ c = i3 := by simpa using hc
    rcases e' with q | q | q | q | q | q
    · rw [q]; exact ⟨_, hz, fun v q => nomatch q⟩
    · rw [q]; exact ⟨_, hTI, fun v q => nomatch q⟩
    · rw [q]; exact ⟨_, hTO, fun v q => nomatch q⟩
    · rw [q]; exact ⟨o1, e1, fun v q => by rw [d1] at q; cases q⟩
    · rw [q]; exact ⟨o2, e2, fun v q => by rw [d2] at q; cases q⟩
    · rw [q]; exact ⟨o3, e3, fun v q => by rw [d3] at q; cases q⟩
  keep := fun i h h' st k => by
    obtain ⟨hz, hTI, ⟨x, y, v, hTO⟩, h1, h2, h3⟩ := st
    exact ⟨k z (by simp) _ hz, k TI (by simp) _ hTI, ⟨x, y, v, k TO (by simp) _ hTO⟩, h1.at fun o q => k i1 (by simp) o q, h2.at fun o q => k i2 (by simp) o q, h3.at fun o q => k i3 (by simp) o q⟩
  item := by
    intro X hP hw hK hc i pins s σ H E I hf st hg
    subst hP hw hK
    obtain ⟨hz, hTI, ⟨x0, y0, v0, hTO⟩, h1, h2, h3⟩ := st
    obtain ⟨xs, ys, zs, x, y, v, hqx, hqy, hqv, hx, hy, hv⟩ := hg
    obtain ⟨its, rv, p, _⟩ := I.list hqx
    obtain ⟨its2, rv2, p2, _⟩ := I.list hqy
    obtain ⟨its3, rv3, p3, _⟩ := I.list hqv
    obtain ⟨u, hu, ru⟩ := rv.get hx
    obtain ⟨u2, hu2, ru2⟩ := rv2.get hy
    obtain ⟨u3, hu3, ru3⟩ := rv3.get hv
    have hzl : z < s.heap.objs.size := Heap.lt_size hz
    refine next_zip3_item D hz hTI hTO h1 h2 h3 p.isList p2.isList p3.isList (x := u) (y := u2) (v := u3) (by simpa using hu) (by simpa using hu2) (by simpa using hu3) fun h' z' TO' h1' h2' h3' hT hsz hk => ?_
    refine ⟨_, rfl, wpAny_letOwnedTupleGo_zip (s := { s with heap := h' }) z' fun h'' z'' sb => ?_⟩
    have hT2 : h''.get? s.heap.objs.size = some { cls := .type "tuple", data := .seq #[u, u2, u3] } := (sb.2 _ (Nat.ne_of_gt hzl)).trans hT
    have new : ObjOk X.prog X.w (upd H s.heap.objs.size (.tup [x, y, v])) h'' s.heap.objs.size (.tup [x, y, v]) :=
      ⟨by show 3 ≤ sizeLine; decide, [u, u2, u3], .cons ru (.cons ru2 (.cons ru3 .nil)), ⟨_, hT2, rfl, _, rfl⟩⟩
    have I1 : Inv X pins σ (upd H s.heap.objs.size (.tup [x, y, v])) { s with heap := h'' } :=
      I.turnedNew (t' := s.toks) (ch := [z, TI, TO, i1, i2, i3]) (fun c o hb q => (sb.2 c (fun q' => hb (by simp [q']))).trans (hk c o (fun q' => hb (by simp [q'])) (fun q' => hb (by simp [q'])) (fun q' => hb (by simp [q'])) (fun q' => hb (by simp [q'])) (fun q' => hb (by simp [q'])) q)) hf (Nat.le_refl _) new
    refine ⟨.ref s.heap.objs.size, _, I1, rfl, ⟨_, x, y, v, rfl, I.hok.fresh (Nat.le_refl _), rfl, fun l hl => by rw [I.list_inj hl hqx]; exact hx, fun l hl => by rw [I.list_inj hl hqy]; exact hy, fun l hl => by rw [I.list_inj hl hqv]; exact hv⟩, ⟨z'', ?_, ⟨u, u2, u3, ?_⟩, ?_, ?_, ?_⟩, fun c hcm => ?_⟩
    · exact (sb.2 _ (Ne.symm D.zTI)).trans (hk _ _ (Ne.symm D.zTI) D.TITO D.TIi1 D.TIi2 D.TIi3 hTI)
    · exact (sb.2 _ (Ne.symm D.zTO)).trans TO'
    · exact h1'.at fun o q => (sb.2 _ (Ne.symm D.zi1)).trans q
    · exact h2'.at fun o q => (sb.2 _ (Ne.symm D.zi2)).trans q
    · exact h3'.at fun o q => (sb.2 _ (Ne.symm D.zi3)).trans q
    · have hlt : c < s.heap.objs.size := by
        have e' : c = z ∨ c = TI ∨ c = TO ∨ c = i1 ∨ c = i2 ∨ c = i3 := by simpa using hcm
        rcases e' with q | q | q | q | q | q
        · rw [q]; exact hzl
        · rw [q]; exact Heap.lt_size hTI
        · rw [q]; exact Heap.lt_size hTO
        · rw [q]; obtain ⟨_, e1, _⟩ := h1; exact Heap.lt_size e1
        · rw [q]; obtain ⟨_, e2, _⟩ := h2; exact Heap.lt_size e2
        · rw [q]; obtain ⟨_, e3, _⟩ := h3; exact Heap.lt_size e3
      rw [upd_ne (Nat.ne_of_lt hlt)]
      exact (hf c hcm).1
  done := by
    intro X hP hw hK hc i pins s σ H E I hf st hg
    subst hP hw hK
    obtain ⟨hz, hTI, ⟨x0, y0, v0, hTO⟩, h1, h2, h3⟩ := st
    obtain ⟨xs, ys, zs, hqx, hqy, hqv, hend⟩ := hg
    obtain ⟨its, rv, p, _⟩ := I.list hqx
    obtain ⟨its2, rv2, p2, _⟩ := I.list hqy
    obtain ⟨its3, rv3, p3, _⟩ := I.list hqv
    have l1 := rv.length
    have l2 := rv2.length
    have l3 := rv3.length
    have he : its.toArray[i]? = none ∨ its2.toArray[i]? = none ∨ its3.toArray[i]? = none := by
      rcases hend with q | q | q
      · exact .inl (by simp; omega)
      · exact .inr (.inl (by simp; omega))
      · exact .inr (.inr (by simp; omega))
    exact next_zip3_end (I.ok.hd hc) D hz hTI hTO h1 h2 h3 p.isList p2.isList p3.isList he fun h' hk => ⟨rfl, I.turnedL (t' := s.toks) (ch := [z, TI, TO, i1, i2, i3]) (fun c o hb q =>
      hk c o (fun q' => hb (by simp [q'])) (fun q' => hb (by simp [q'])) (fun q' => hb (by simp [q'])) (fun q' => hb (by simp [q'])) (fun q' => hb (by simp [q'])) q) hf⟩
  self := fun A i s Q E st h => wpAny_pyIter_zip st.1 h
def iZip3 (K : PySem.W.Frag) (ta : TA) : TI := fun σ H R => ta σ H fun vs H1 => ∃ a b c xs ys zs, vs = [.ref a, .ref b, .ref c] ∧ SqL K H1 a xs ∧ SqL K H1 b ys ∧ SqL K H1 c zs ∧ R (Itz3 K a b c) H1
theorem pi_zip3 {X : Cx} {e e2 e3 : Expr} {ta : TA} {p pos tpos : Pos} {elts : List Expr} {kk : Nat} (hg : Gl X "zip") (hm : X.mg "zip" = none) (ha : PA X [e, e2, e3] ta)
    (hs : starEach [e, e2, e3] X.env = (false, eval e X.env) :: starEach [e2, e3] X.env := by rfl) (hpl : (backTo pos (starEach [e2, e3] X.env)).any (·.1) = false := by rfl) :
    PI X (.Tuple elts kk tpos) (.Call (.Name "zip" p) [e, e2, e3] [] pos) (iZip3 X.K ta) := by
  refine ⟨fun pins s σ H R I h => ?_⟩
  refine Call_ (ld_blt I hg hm PyProof.Rows.boot_zip (PyProof.Rows.callWith_type1 (thn (ha.run pos pins s σ H _ I h) fun us s1 ⟨vs, H1, I1, r1, q1⟩ => ?_) hs hpl))
  obtain ⟨a, b, c, xs, ys, zs, ex, hqx, hqy, hqv, q⟩ := q1
  subst ex
  cases r1 with
  | cons r rr =>
    cases rr with
    | cons r' rr =>
      cases rr with
      | cons r'' rr =>
        cases rr
        cases r
        cases r'
        cases r''
        obtain ⟨its, rv, p1, _⟩ := I1.list hqx
        obtain ⟨its2, rv2, p2, _⟩ := I1.list hqy
        obtain ⟨its3, rv3, p3, _⟩ := I1.list hqv
        refine call_zip3 p1.isList p2.isList p3.isList fun h' hz hTI hTO h1 h2 h3 hk => wpAny_pyIter_zip hz ?_
        have I2 : Inv X pins σ H1 { s1 with heap := h' } := I1.kept (t' := s1.toks) hk
        refine ⟨s1.heap.objs.size + 5, [s1.heap.objs.size + 5, s1.heap.objs.size + 3, s1.heap.objs.size + 4, s1.heap.objs.size, s1.heap.objs.size + 1, s1.heap.objs.size + 2], _, _, H1, rfl, I2, turn_zip3 (Ap3.fresh p1.lt p2.lt p3.lt), ⟨hz, hTI, ⟨_, _, _, hTO⟩, h1, h2, h3⟩, fun c hcm => ?_, q⟩
        have e' : c = s1.heap.objs.size + 5 ∨ c = s1.heap.objs.size + 3 ∨ c = s1.heap.objs.size + 4 ∨ c = s1.heap.objs.size ∨ c = s1.heap.objs.size + 1 ∨ c = s1.heap.objs.size + 2 := by simpa using hcm
        have hle : s1.heap.objs.size ≤ c := by
          rcases e' with z | z | z | z | z | z <;> rw [z] <;> first | exact Nat.le_add_right _ _ | exact Nat.le_refl _
        exact I1.fpOk hle (I1.hok.fresh hle)
section
variable {K : PySem.W.Frag}
theorem wk_zip3 {a b c : Addr} {xs ys zs : List V} : Wk (Itz3 K a b c) (min xs.length (min ys.length zs.length)) (fun i u L' => ∃ T x y v, u = .ref T ∧ xs[i]? = some x ∧ ys[i]? = some y ∧ zs[i]? = some v ∧ L' = [(T, .tup [x, y, v])]) (fun L => InL a xs L ∧ InL b ys L ∧ InL c zs L) where
  go := fun L H i hs l hi => by
    have h1 : i < xs.length := by omega
    have h2 : i < ys.length := by omega
    have h3 : i < zs.length := by omega
    exact ⟨xs, ys, zs, xs[i], ys[i], zs[i], hs.1.sq l, hs.2.1.sq l, hs.2.2.sq l, by simp [h1], by simp [h2], by simp [h3]⟩
  yld := fun L H i v H' hs l hi hy => by
    obtain ⟨T, x, y, u, e, n, eH, q1, q2, q3⟩ := hy
    exact ⟨_, ⟨T, x, y, u, e, q1 xs (hs.1.sq l), q2 ys (hs.2.1.sq l), q3 zs (hs.2.2.sq l), rfl⟩, by rw [eH]; exact l.new n⟩
  stop := fun L H hs l => ⟨xs, ys, zs, hs.1.sq l, hs.2.1.sq l, hs.2.2.sq l, by omega⟩
end
def itZ3 (K : PySem.W.Frag) (vs : List V) (H : Hp) (R : It → Hp → Prop) : Prop := ∃ a b c xs ys zs, vs = [.ref a, .ref b, .ref c] ∧ SqL K H a xs ∧ SqL K H b ys ∧ SqL K H c zs ∧ R (Itz3 K a b c) H
section
variable {K : PySem.W.Frag} {L R R' R'' : Lg} {σ : SS} {a b c : Addr} {xs ys zs : List V} {RJ : It → Hp → Prop} {tr : TA}
theorem t_iZ3 (k : Tr L fun H => tr σ H fun x H1 => itZ3 K x H1 RJ) : Tr L fun H => iZip3 K tr σ H RJ := k
theorem t_itZ3 (hp : Pick a (.lst xs) L R) (hq : Pick b (.lst ys) L R') (hr : Pick c (.lst zs) L R'') (k : Tr L fun H => RJ (Itz3 K a b c) H) : Tr L fun H => itZ3 K [.ref a, .ref b, .ref c] H RJ := fun H l => ⟨a, b, c, xs, ys, zs, rfl, sqL hp l, sqL hq l, sqL hr l, k H l⟩
end
end Hz

namespace Hz
open PySem PySem.Spec PyProof.Rows L2 RZ
def topS (i : Nat) : Stmt := PySem.Challenge.pw_stickyheads_k58_named_arguments_of_readi.main.body.getD i (.Pass ⟨0, 0, 0, 0⟩)
abbrev s_is_integer : Stmt := topS 9
theorem sc_is_integer : FnScope ["value"] ["value"] (defScope s_is_integer) := ⟨rfl, rfl, rfl, by decide +kernel, rfl, by decide +kernel, by decide +kernel⟩
abbrev s_is_outline : Stmt := topS 10
theorem sc_is_outline : FnScope ["value", "before", "depth"] ["value"] (defScope s_is_outline) := ⟨rfl, rfl, rfl, by decide +kernel, rfl, by decide +kernel, by decide +kernel⟩
abbrev s_check_outline : Stmt := topS 11
theorem sc_check_outline : FnScope ["outline"] ["outline"] (defScope s_check_outline) := ⟨rfl, rfl, rfl, by decide +kernel, rfl, by decide +kernel, by decide +kernel⟩
abbrev s_stops_of : Stmt := topS 12
theorem sc_stops_of : FnScope ["outline", "line", "depth"] ["outline"] (defScope s_stops_of) := ⟨rfl, rfl, rfl, by decide +kernel, rfl, by decide +kernel, by decide +kernel⟩
abbrev s_check_height : Stmt := topS 15
theorem sc_check_height : FnScope ["height"] ["height"] (defScope s_check_height) := ⟨rfl, rfl, rfl, by decide +kernel, rfl, by decide +kernel, by decide +kernel⟩
abbrev s_check_not_too_deep : Stmt := topS 17
theorem sc_check_not_too_deep : FnScope ["outline", "height", "line", "number"] ["outline", "height", "line"] (defScope s_check_not_too_deep) := ⟨rfl, rfl, rfl, by decide +kernel, rfl, by decide +kernel, by decide +kernel⟩
abbrev s_check_arguments : Stmt := topS 19
theorem sc_check_arguments : FnScope ["outline", "height"] ["outline", "height"] (defScope s_check_arguments) := ⟨rfl, rfl, rfl, by decide +kernel, rfl, by decide +kernel, by decide +kernel⟩
abbrev s_ways_to_finish : Stmt := topS 20
theorem sc_ways_to_finish : FnScope ["outline", "height", "size", "stops", "rows", "scroll", "sums", "ways", "row"] ["outline", "height"] (defScope s_ways_to_finish) := ⟨rfl, rfl, rfl, by decide +kernel, rfl, by decide +kernel, by decide +kernel⟩
abbrev s_count_shortest : Stmt := topS 21
theorem sc_count_shortest : FnScope ["outline", "height"] ["outline", "height"] (defScope s_count_shortest) := ⟨rfl, rfl, rfl, by decide +kernel, rfl, by decide +kernel, by decide +kernel⟩
abbrev s_nth_shortest : Stmt := topS 22
theorem sc_nth_shortest : FnScope ["outline", "height", "index", "rows", "scrolls", "row", "scroll"] ["outline", "height", "index"] (defScope s_nth_shortest) := ⟨rfl, rfl, rfl, by decide +kernel, rfl, by decide +kernel, by decide +kernel⟩
abbrev s_rank_shortest : Stmt := topS 23
theorem sc_rank_shortest : FnScope ["outline", "height", "scrolls", "rows", "one", "stops", "index", "row", "scroll", "following"] ["outline", "height", "scrolls"] (defScope s_rank_shortest) := ⟨rfl, rfl, rfl, by decide +kernel, rfl, by decide +kernel, by decide +kernel⟩
abbrev s_check_sizes : Stmt := topS 27
theorem sc_check_sizes : FnScope ["lines", "deepest"] ["lines", "deepest"] (defScope s_check_sizes) := ⟨rfl, rfl, rfl, by decide +kernel, rfl, by decide +kernel, by decide +kernel⟩
abbrev s_continuations : Stmt := topS 28
theorem sc_continuations : FnScope ["lines", "deepest", "top", "rows", "step", "sums", "ways", "depth"] ["lines", "deepest"] (defScope s_continuations) := ⟨rfl, rfl, rfl, by decide +kernel, rfl, by decide +kernel, by decide +kernel⟩
abbrev s_count_outlines : Stmt := topS 29
theorem sc_count_outlines : FnScope ["lines", "deepest"] ["lines", "deepest"] (defScope s_count_outlines) := ⟨rfl, rfl, rfl, by decide +kernel, rfl, by decide +kernel, by decide +kernel⟩
abbrev s_nth_outline : Stmt := topS 30
theorem sc_nth_outline : FnScope ["lines", "deepest", "index", "rows", "outline", "row", "depth"] ["lines", "deepest", "index"] (defScope s_nth_outline) := ⟨rfl, rfl, rfl, by decide +kernel, rfl, by decide +kernel, by decide +kernel⟩
abbrev s_rank_outline : Stmt := topS 31
theorem sc_rank_outline : FnScope ["outline", "deepest", "rows", "row", "depth"] ["outline", "deepest"] (defScope s_rank_outline) := ⟨rfl, rfl, rfl, by decide +kernel, rfl, by decide +kernel, by decide +kernel⟩
abbrev s_law_open_source : Stmt := topS 33
theorem sc_law_open_source : FnScope ["script", "k", "cell"] ["script", "k"] (defScope s_law_open_source) := ⟨rfl, rfl, rfl, by decide +kernel, rfl, by decide +kernel, by decide +kernel⟩
abbrev s_law_draw : Stmt := topS 34
theorem sc_law_draw : FnScope ["source", "limit", "digit", "mixed"] ["source", "limit"] (defScope s_law_draw) := ⟨rfl, rfl, rfl, by decide +kernel, rfl, by decide +kernel, by decide +kernel⟩
abbrev s_law_same : Stmt := topS 35
theorem sc_law_same : FnScope ["result", "expected", "one", "two"] ["result", "expected"] (defScope s_law_same) := ⟨rfl, rfl, rfl, by decide +kernel, rfl, by decide +kernel, by decide +kernel⟩
abbrev s_law_made : Stmt := topS 36
theorem sc_law_made : FnScope ["source", "script", "most", "bound", "size", "style", "made", "top", "some"] ["source", "script", "most", "bound"] (defScope s_law_made) := ⟨rfl, rfl, rfl, by decide +kernel, rfl, by decide +kernel, by decide +kernel⟩
abbrev s_law_height : Stmt := topS 37
theorem sc_law_height : FnScope ["source", "made", "least", "more"] ["source", "made"] (defScope s_law_height) := ⟨rfl, rfl, rfl, by decide +kernel, rfl, by decide +kernel, by decide +kernel⟩
abbrev s_law_asked : Stmt := topS 38
theorem sc_law_asked : FnScope ["made", "tall", "at", "first", "found"] ["made", "tall", "at"] (defScope s_law_asked) := ⟨rfl, rfl, rfl, by decide +kernel, rfl, by decide +kernel, by decide +kernel⟩
abbrev s_law_named : Stmt := topS 39
theorem sc_law_named : FnScope ["made", "tall", "at", "first", "found"] ["made", "tall", "at"] (defScope s_law_named) := ⟨rfl, rfl, rfl, by decide +kernel, rfl, by decide +kernel, by decide +kernel⟩
abbrev s_law : Stmt := topS 40
theorem sc_law : FnScope ["script", "k", "source", "made", "other", "tall", "wide", "at", "expected", "results", "copied"] ["script"] (defScope s_law) := ⟨rfl, rfl, rfl, by decide +kernel, rfl, by decide +kernel, by decide +kernel⟩
/-! the steps -/
local macro_rules | `(tactic| walk_at "pk") => `(tactic| first | exact Pick.head | (apply Pick.tail; walk_at "pk") | (apply Pick.app; walk_at "pk") | assumption)
local macro_rules | `(tactic| walk_at "mb") => `(tactic| first | assumption | exact List.mem_cons_self | (apply List.mem_cons_of_mem; walk_at "mb") | (apply List.mem_append_right; walk_at "mb") | (exact Pick.mem (by assumption)))
local macro_rules | `(tactic| walk_at "sa") => `(tactic| first | exact SetAt.zero | (apply SetAt.succ; walk_at "sa"))
local macro_rules | `(tactic| walk_at "ga") => `(tactic| first | exact GetAt.zero | (apply GetAt.succ; walk_at "ga"))
local macro_rules | `(tactic| walk_at "sb") => `(tactic| first | exact Sub.refl | ((fail_if_success apply Sub.take); first | (apply Sub.keep; walk_at "sb") | (apply Sub.drop; walk_at "sb") | (apply Sub.app; walk_at "sb")) | (apply Sub.take; (walk_at "pk"); (walk_at "sb")))
local macro_rules | `(tactic| walk_at "pre") => `(tactic| first | exact Pre.nil | (apply Pre.cons; walk_at "pre") | (apply Pre.app; walk_at "pre"))
local macro_rules | `(tactic| walk_at "ty") => `(tactic| first | assumption | exact HasTy.non | exact HasTy.bl _ | exact HasTy.int _ | exact HasTy.str _ | (apply HasTy.lst; walk_at "mb") | (apply HasTy.tup; walk_at "mb") | (apply HasTy.dct; walk_at "mb"))
local macro_rules | `(tactic| walk_at "hx") => `(tactic| first
  | ((with_reducible refine' t_is ?ty ?mem ?_); (case ty => walk_at "ty"); (case mem => decide)))
local macro_rules | `(tactic| walk_at "sz") => `(tactic| first | (with_unfolding_all decide) | (rw [sizeLine_eq]; omega) | (simp only [sizeLine_eq, List.length_append, List.length_map, List.length_cons, List.length_nil, List.length_replicate, List.length_take, List.length_drop, List.length_reverse]; omega))
local macro_rules | `(tactic| walk_at "hz") => `(tactic| first
  | (with_reducible refine t_seq ?_)
  | (with_reducible refine t_asg ?_)
  | (with_reducible refine t_whBT ?_) | (with_reducible refine t_whBF ?_) | (with_reducible refine t_nxP ?_) | (with_reducible refine t_nxW ?_) | (with_reducible refine t_ctP ?_) | (with_reducible refine t_ctW ?_)
  | ((with_reducible refine' t_varA ?ga ?_); (case ga => walk_at "ga"))
  | (with_reducible refine t_c ?_)
  | ((with_reducible refine' t_name ?sa ?_); (case sa => walk_at "sa"))
  | (with_reducible refine t_op ?_)
  | (with_reducible refine t_rI0 ?_)
  | (with_reducible refine t_rU ?_)
  | (with_reducible refine t_eqI ?_)
  | (with_reducible refine t_neI ?_)
  | (with_reducible refine t_cons ?_)
  | (with_reducible refine t_nil ?_)
  | ((with_reducible refine t_dnewK ?_); intro)
  | (with_reducible refine t_callS ?_) | (with_reducible refine t_callGK ?_)
  | (with_reducible refine t_CB ?_)
  | (with_reducible refine t_if ?_)
  | (with_reducible refine t_test ?_)
  | (with_reducible refine t_bl ?_)
  | (with_reducible refine t_iteT ?_)
  | (with_reducible refine t_iteF ?_)
  | (with_reducible refine t_lst ?_)
  | (with_reducible refine t_tup ?_)
  | ((with_reducible refine t_newL ?sz ?_); (case sz => walk_at "sz"); intro)
  | ((with_reducible refine t_newT ?sz ?_); (case sz => walk_at "sz"); intro)
  | (with_reducible refine t_un ?_)
  | (with_reducible refine t_B ?_)
  | (with_reducible refine t_and ?_)
  | (with_reducible refine t_or ?_)
  | (with_reducible refine t_not ?_)
  | (with_reducible refine t_andV ?_)
  | (with_reducible refine t_orV ?_)
  | (with_reducible refine t_notV ?_)
  | (with_reducible refine t_ifE ?_)
  | (with_reducible refine t_chain ?_)
  | (with_reducible refine t_ret ?_)
  | (with_reducible refine t_retN ?_)
  | (with_reducible refine t_drop ?_)
  | (with_reducible refine t_for ?_)
  | (with_reducible refine t_lc ?_)
  | (with_reducible refine t_next ?_)
  | (with_reducible refine t_BM ?_)
  | (with_reducible refine t_BM0 ?_)
  | ((with_reducible refine' t_tyL ?pk ?_); (case pk => walk_at "pk"))
  | (with_reducible refine t_tyS ?_)
  | ((with_reducible refine' t_ixI ?pk ?sd ?sd2 ?_); (case pk => walk_at "pk"); (case sd => omega); (case sd2 => omega))
  | ((with_reducible refine' t_ixL ?pk ?at_ ?_); (case pk => walk_at "pk"); (case at_ => walk_at "at"))
  | ((with_reducible refine' t_ixT ?pk ?at_ ?_); (case pk => walk_at "pk"); (case at_ => walk_at "at"))
  | ((with_reducible refine' t_appI ?pk ?sz ?_); (case pk => walk_at "pk"); (case sz => walk_at "sz"))
  | ((with_reducible refine' t_append ?pk ?sz ?_); (case pk => walk_at "pk"); (case sz => walk_at "sz"))
  | ((with_reducible refine' t_reverse ?pk ?_); (case pk => walk_at "pk"))
  | ((with_reducible refine' t_extend ?pk ?pk2 ?sz ?_); (case pk => walk_at "pk"); (case pk2 => walk_at "pk"); (case sz => walk_at "sz"))
  | (with_reducible refine t_slice ?_)
  | (with_reducible refine t_noPart ?_)
  | (with_reducible refine t_part ?_)
  | (with_reducible refine t_int ?_)
  | ((with_reducible refine' t_slI ?pk ?_); (case pk => walk_at "pk"); intro)
  | ((with_reducible refine' t_slL ?pk ?_); (case pk => walk_at "pk"); intro)
  | ((with_reducible refine' t_catI ?pk ?pk2 ?sz ?_); (case pk => walk_at "pk"); (case pk2 => walk_at "pk"); (case sz => walk_at "sz"); intro)
  | ((with_reducible refine' t_cat ?pk ?pk2 ?sz ?_); (case pk => walk_at "pk"); (case pk2 => walk_at "pk"); (case sz => walk_at "sz"); intro)
  | ((with_reducible refine' t_augA ?ga ?_); (case ga => walk_at "ga"))
  | (with_reducible refine t_ipI ?_)
  | (with_reducible refine t_par ?_)
  | (with_reducible refine t_two ?_)
  | (with_reducible refine t_sub ?_) | (with_reducible refine t_gSl ?_)
  | ((with_reducible refine' t_setAll ?pk ?pk2 ?sz ?_); (case pk => walk_at "pk"); (case pk2 => walk_at "pk"); (case sz => walk_at "sz"))
  | ((with_reducible refine' t_tupG ?pk ?n ?_); (case pk => walk_at "pk"); (case n => rfl))
  | ((with_reducible refine' t_lstG ?pk ?n ?_); (case pk => walk_at "pk"); (case n => rfl))
  | (with_reducible refine t_consG ?_)
  | (with_reducible refine t_nilG ?_)
  | (with_reducible refine t_isN ?_)
  | (with_reducible refine t_notN ?_)
  | (with_reducible refine t_eqB ?_)
  | (with_reducible refine t_eqS ?_)
  | (with_reducible refine t_neB ?_)
  | (with_reducible refine t_neS ?_)
  | (with_reducible refine t_iL ?_) | (with_reducible refine t_iT ?_) | (with_reducible refine t_iR1 ?_) | (with_reducible refine t_iR2 ?_) | (with_reducible refine t_iR3 ?_)
  | (with_reducible refine t_iZA ?_) | (with_reducible refine t_iE ?_) | (with_reducible refine t_iZ ?_) | (with_reducible refine t_iS ?_)
  | ((with_reducible refine' t_itL ?pk ?_); (case pk => walk_at "pk"))
  | ((with_reducible refine' t_itT ?pk ?_); (case pk => walk_at "pk"))
  | ((with_reducible refine' t_itE ?pk ?_); (case pk => walk_at "pk"))
  | ((with_reducible refine' t_itZ ?pk ?pk2 ?_); (case pk => walk_at "pk"); (case pk2 => walk_at "pk"))
  | ((with_reducible refine' t_itZL ?pk ?pk2 ?_); (case pk => walk_at "pk"); (case pk2 => walk_at "pk"))
  | (with_reducible refine t_itS ?_)
  | ((with_reducible refine t_wiped ?w ?_); (case w => rfl))
  | (with_reducible refine t_yes ?_)
  | ((with_reducible refine' t_rep ?pk ?sd ?sd2 ?sz ?_); (case pk => walk_at "pk"); (case sd => decide); (case sd2 => decide); (case sz => walk_at "sz"); intro)
  | ((with_reducible refine' t_lenI ?pk ?_); (case pk => walk_at "pk"))
  | ((with_reducible refine' t_lenL ?pk ?_); (case pk => walk_at "pk"))
  | ((with_reducible refine' t_lenT ?pk ?_); (case pk => walk_at "pk"))
  | ((with_reducible refine t_rI ?sd ?_); (case sd => walk_at "sd"))
  | (with_reducible refine t_max2 ?_) | (with_reducible refine t_min2 ?_)
  | (with_reducible refine t_intI ?_) | (with_reducible refine t_intB ?_)
  | ((with_reducible refine t_itR1 ?sd ?sd2 ?_); (case sd => walk_at "sd"); (case sd2 => walk_at "sd"))
  | ((with_reducible refine t_itR2 ?sd ?_); (case sd => walk_at "sd"))
  | (with_reducible refine t_lstRg ?_) | (with_reducible refine t_rg1 ?_) | (with_reducible refine t_rg2 ?_) | (with_reducible refine t_int2 ?_)
  | ((with_reducible refine t_rgI ?sd ?_); (case sd => walk_at "sd"); intro)
  | ((with_reducible refine t_newRg ?sd ?_); (case sd => walk_at "sd"); intro)
  | (with_reducible refine t_revL ?_)
  | ((with_reducible refine' t_revI ?pk ?_); (case pk => walk_at "pk"); intro)
  | ((with_reducible refine' t_newRev ?pk ?_); (case pk => walk_at "pk"); intro)
  | (with_reducible refine t_isB ?_) | (with_reducible refine t_notB ?_)
  | ((with_reducible refine' t_listL ?pk ?_); (case pk => walk_at "pk"); intro)
  | ((with_reducible refine' t_listT ?pk ?_); (case pk => walk_at "pk"); intro)
  | ((with_reducible refine' t_tupleL ?pk ?_); (case pk => walk_at "pk"); intro)
  | ((with_reducible refine' t_inI ?pk ?_); (case pk => walk_at "pk"))
  | ((with_reducible refine' t_notInI ?pk ?_); (case pk => walk_at "pk"))
  | ((with_reducible refine t_ifT ?h ?_); (case h => first | decide | rfl))
  | ((with_reducible refine t_ifF ?h ?_); (case h => first | decide | rfl))
  | (with_reducible refine t_sortSet ?_) | (with_reducible refine t_lenSetV ?_)
  | (with_reducible refine t_ifR ?_) | (with_reducible refine t_ifNR ?_)
  | ((with_reducible refine t_ifDT ?h ?_); (case h => omega)) | ((with_reducible refine t_ifDF ?h ?_); (case h => omega))
  | ((with_reducible refine t_ifNT ?h ?_); (case h => omega)) | ((with_reducible refine t_ifNF ?h ?_); (case h => omega)))
local macro_rules | `(tactic| walk_at "sd") => `(tactic| first | omega | assumption | (exact .inl (by omega)) | (exact .inr (.inl (by omega))) | (refine And.intro ?_ ?_ <;> omega) | decide | (exact ⟨by omega, by omega, by omega, by omega⟩) | (exact RgOk.of_le (by omega) (by omega) (by omega) (by omega)))
local macro_rules | `(tactic| walk_at "at") => `(tactic| first | rfl | exact atI_nat (by assumption) | exact atI_nat rfl)
local macro_rules | `(tactic| walk_at "hz") => `(tactic| first
  | (with_reducible refine t_rev2L ?_)
  | ((with_reducible refine' t_newRev2 ?pk ?_); (case pk => walk_at "pk"); intro))
local macro_rules | `(tactic| walk_at "hz") => `(tactic| first
  | (with_reducible refine t_iZ3 ?_)
  | ((with_reducible refine' t_itZ3 ?pk ?pk2 ?pk3 ?_); (case pk => walk_at "pk"); (case pk2 => walk_at "pk"); (case pk3 => walk_at "pk")))
section
variable {P : Program} {w : World} {K : PySem.W.Frag} {mg : Str → Option Value} {base : Heap}
/-! ### is_integer, is_outline, check_outline -/
def isInt : V → Bool
  | .int _ => true
  | _ => false
def chainV : Int → List V → Bool
  | _, [] => true
  | b, .int d :: r => decide (0 ≤ d) && decide (d ≤ b + 1) && chainV d r
  | _, _ :: _ => false
/-- the list is an outline -/
def outV (xs : List V) : Bool := decide (1 ≤ xs.length) && decide (xs.length ≤ 200) && chainV (-1) xs
def sp_is_integer : Sp := fun vs H Q _ => ∃ (x : V) (T : String) (L : Lg), vs = [x] ∧ Led H L ∧ HasTy L x T ∧ Tr L (fun H => Q (.bl (isInt x)) H)
theorem use_is_integer {L : Lg} {Q : VK} {E : XK} {x : V} {T : String} (h : HasTy L x T) (k : Tr L fun H => Q (.bl (isInt x)) H) : Tr L fun H => sp_is_integer [x] H Q E := fun H l => ⟨x, T, L, rfl, l, h, k⟩
theorem isInt_isB {L : Lg} {x : V} {T : String} (h : HasTy L x T) : (isB T "int" && !isB T "bool") = isInt x := by cases h <;> rfl
theorem ok_is_integer (D : Df K mg "is_integer" s_is_integer) (B : Blt mg) : Ok P w K mg base CX0 1 "is_integer" ["value"] sp_is_integer := by
  obtain ⟨f, fd, hm, F⟩ := D
  refine ⟨f, fd, hm, F.kp, F.binds (fun _ _ _ _ _ _ us hl => match us, hl with | [_], _ => rfl), FunOkG F sc_is_integer (fun vs H Q E h => ?_) (fun cdv A outer s H vs Q E hr h => ?_), F.lk⟩
  · obtain ⟨x, T, L, rfl, _⟩ := h; rfl
  · obtain ⟨x, T, L, rfl, l, ht, q⟩ := h
    refine ⟨_, PSs.nox (pss_one (ps_ret (pe_and (pe_callB c_is rfl B.isinstance_ boot_isinstance (pa_cons (pv 0) (pa_cons (pe_ty B.int_ boot_int) pa_nil))) (pe_one (pe_not (pe_callB c_is rfl B.isinstance_ boot_isinstance (pa_cons (pv 0) (pa_cons (pe_ty B.bool_ boot_bool) pa_nil)))))))), ?_⟩
    rw [show L2.start ["value"] [x] = [some x] from rfl]
    refine Tr.of (L := L) ?_ l
    repeat walk_at "hz"
    refine t_is ht (by decide) ?_
    repeat walk_at "hz"
    have e := isInt_isB ht
    refine t_ite (fun h1 => ?_) fun h1 => ?_
    · repeat walk_at "hz"
      refine t_is ht (by decide) ?_
      repeat walk_at "hz"
      rw [h1, Bool.true_and] at e
      rw [e]
      exact q
    · repeat walk_at "hz"
      rw [h1, Bool.false_and] at e
      rw [e]
      exact q
/-- what is_outline answers -/
def OutIs (L : Lg) (x : V) (b : Bool) : Prop := (∃ a xs, x = .ref a ∧ (a, .lst xs) ∈ L ∧ (∀ y ∈ xs, ∃ T, HasTy L y T) ∧ b = outV xs) ∨ (∃ T, HasTy L x T ∧ T ≠ "list" ∧ b = false)
def sp_is_outline : Sp := fun vs H Q _ => ∃ (x : V) (b : Bool) (L : Lg), vs = [x] ∧ Led H L ∧ OutIs L x b ∧ Tr L (fun H => Q (.bl b) H)
theorem use_is_outline {L : Lg} {Q : VK} {E : XK} {x : V} {b : Bool} (h : OutIs L x b) (k : Tr L fun H => Q (.bl b) H) : Tr L fun H => sp_is_outline [x] H Q E := fun H l => ⟨x, b, L, rfl, l, h, k⟩
theorem chainV_not {b : Int} {v : V} {r : List V} (h : isInt v = false) : chainV b (v :: r) = false := by
  cases v <;> first | rfl | cases h
theorem drop_cons {α : Type} {xs : List α} {i : Nat} {v : α} (h : xs[i]? = some v) : xs.drop i = v :: xs.drop (i + 1) := by
  obtain ⟨h1, h2⟩ := List.getElem?_eq_some_iff.mp h
  rw [List.drop_eq_getElem_cons h1, h2]
theorem isB_list {T : String} (h : T ∈ tyNames) (n : T ≠ "list") : isB T "list" = false := by
  unfold isB
  simp [n]
theorem ok_is_outline (D : Df K mg "is_outline" s_is_outline) (B : Blt mg) (g_MAX_LINES_outlines : GV mg "MAX_LINES_outlines" (.int 200)) (k_is_integer : Ok P w K mg base CX0 1 "is_integer" ["value"] sp_is_integer) :
    Ok P w K mg base CX0 2 "is_outline" ["value"] sp_is_outline := by
  obtain ⟨f, fd, hm, F⟩ := D
  refine ⟨f, fd, hm, F.kp, F.binds (fun _ _ _ _ _ _ us hl => match us, hl with | [_], _ => rfl), FunOkG F sc_is_outline (fun vs H Q E h => ?_) (fun cdv A outer s H vs Q E hr h => ?_), F.lk⟩
  · obtain ⟨x, T, L, rfl, _⟩ := h; rfl
  · obtain ⟨x, b, L, rfl, l, ho, q⟩ := h
    refine ⟨_, PSs.nox (pss_cons (ps_if (PW.pt (pw_or (pt_not (pt_val (pe_callB c_is rfl B.isinstance_ boot_isinstance (pa_cons (pv 0) (pa_cons (pe_ty B.list_ boot_list) pa_nil))))) (pw_or1 (pt_not (pt_chain op_le op_le pe_int (pe_callB c_len rfl B.len_ boot_len (pa_cons (pv 0) pa_nil)) (pe_gv g_MAX_LINES_outlines)))))) (pss_one (ps_ret pe_bl))
        pss_nil)
      (pss_cons (ps_set (i := 1) sc_is_outline.nd rfl (.inl rfl) (pe_un un_neg pe_int))
      (pss_cons (ps_for PassesOwn.never rfl (pi_list (pv 0)) (pg_name (i := 2) sc_is_outline.nd rfl (.inl rfl))
        (pss_cons (ps_if (PW.pt (pw_or (pt_not (pt_val (pe_callG k_is_integer (hr.mono (by omega)) pas0 (pa_cons (pv 2) pa_nil)))) (pw_or1 (pt_not (pt_chain op_le op_le pe_int (pv 2) (pe_op op_add (pv 1) pe_int)))))) (pss_one (ps_ret pe_bl))
        pss_nil)
      (pss_one (ps_set (i := 1) sc_is_outline.nd rfl (.inl rfl) (pv 2)))))
      (pss_one (ps_ret pe_bl))))), ?_⟩
    rw [show L2.start ["value", "before", "depth"] [x] = [some x, none, none] from rfl]
    refine Tr.of (L := L) ?_ l
    repeat walk_at "hz"
    rcases ho with ⟨a, xs, rfl, hm, hty, rfl⟩ | ⟨T, ht, hn, rfl⟩
    · refine t_is (.lst hm) (by decide) ?_
      obtain ⟨R, hp⟩ := Pick.of_mem hm
      repeat walk_at "hz"
      refine t_iteD (fun h1 => ?_) fun h1 => ?_
      · repeat walk_at "hz"
        refine t_iteND (fun h2 => ?_) fun h2 => ?_
        · repeat walk_at "hz"
          rw [show outV xs = false by unfold outV; rw [show decide (xs.length ≤ 200) = false from decide_eq_false (by omega), Bool.and_false, Bool.false_and]] at q
          exact q
        · repeat walk_at "hz"
          refine t_forK wk_list (fun i y => [some (.ref a), some (.int y.1), y.2]) (fun _ _ => L) (fun i y => chainV (-1) xs = chainV y.1 (xs.drop i)) ⟨((-1 : Int), none), rfl, rfl, .refl⟩ (fun _ _ _ => ⟨R, hp⟩) ?_ ?_
          · rintro i ⟨b, d⟩ v L' hi hc ⟨hv, rfl⟩
            dsimp only at hc ⊢
            rw [drop_cons hv] at hc
            obtain ⟨T, ht⟩ := hty v (List.mem_of_getElem? hv)
            show Tr L _
            repeat walk_at "hz"
            refine use_is_integer ht ?_
            repeat walk_at "hz"
            refine t_ite (fun h3 => ?_) fun h3 => ?_
            · repeat walk_at "hz"
              rw [show outV xs = false by unfold outV; rw [hc, chainV_not (by simpa using h3), Bool.and_false]] at q
              exact q
            · have h4 : isInt v = true := by simpa using h3
              obtain ⟨m, rfl⟩ : ∃ m, v = .int m := by
                cases v <;> first | exact ⟨_, rfl⟩ | cases h4
              repeat walk_at "hz"
              refine t_iteD (fun h5 => ?_) fun h5 => ?_
              · repeat walk_at "hz"
                refine t_iteND (fun h6 => ?_) fun h6 => ?_
                · repeat walk_at "hz"
                  rw [show outV xs = false by unfold outV; rw [hc, chainV, decide_eq_false h6, Bool.and_false, Bool.false_and, Bool.and_false]] at q
                  exact q
                · repeat walk_at "hz"
                  refine t_pst (m, some (V.int m)) ?_ (by rfl) (by walk_at "sb")
                  rw [hc, chainV, decide_eq_true h5, decide_eq_true h6]; rfl
              · repeat walk_at "hz"
                rw [show outV xs = false by unfold outV; rw [hc, chainV, decide_eq_false h5, Bool.false_and, Bool.false_and, Bool.and_false]] at q
                exact q
          · rintro ⟨b, d⟩ hc
            repeat walk_at "hz"
            rw [List.drop_length] at hc
            rw [show outV xs = true by unfold outV; rw [hc, decide_eq_true (by omega), decide_eq_true (by omega)]; rfl] at q
            exact q
      · repeat walk_at "hz"
        rw [show outV xs = false by unfold outV; rw [show decide (1 ≤ xs.length) = false from decide_eq_false (by omega), Bool.false_and, Bool.false_and]] at q
        exact q
    · refine t_is ht (by decide) ?_
      rw [isB_list ht.name hn]
      repeat walk_at "hz"
      exact q
theorem chainV_ints : ∀ (b : Int) (ns : List Int), chainV b (ns.map V.int) = true ↔ chainI b ns
  | _, [] => by simp [chainV, chainI]
  | b, d :: r => by
    show (decide (0 ≤ d) && decide (d ≤ b + 1) && chainV d (r.map V.int)) = true ↔ (0 ≤ d ∧ d ≤ b + 1 ∧ chainI d r)
    rw [Bool.and_eq_true, Bool.and_eq_true, chainV_ints d r, decide_eq_true_eq, decide_eq_true_eq, and_assoc]
/-- the depths of an outline -/
def Outline (ns : List Int) : Prop := outV (ns.map V.int) = true
theorem outline_iff {ns : List Int} : Outline ns ↔ 1 ≤ ns.length ∧ ns.length ≤ 200 ∧ chainI (-1) ns := by
  unfold Outline outV
  rw [List.length_map, Bool.and_eq_true, Bool.and_eq_true, chainV_ints, decide_eq_true_eq, decide_eq_true_eq, and_assoc]
theorem Outline.chain {ns : List Int} (h : Outline ns) : chainI (-1) ns := (outline_iff.mp h).2.2
theorem Outline.len {ns : List Int} (h : Outline ns) : 1 ≤ ns.length ∧ ns.length ≤ 200 := ⟨(outline_iff.mp h).1, (outline_iff.mp h).2.1⟩
theorem Outline.bound {ns : List Int} (h : Outline ns) {i : Nat} {d : Int} (e : ns[i]? = some d) : 0 ≤ d ∧ d ≤ i := by
  have := chainI_bounds _ _ h.chain i d e
  omega
theorem Outline.small {ns : List Int} (h : Outline ns) : ∀ n ∈ ns, n.natAbs < 2 ^ 1000 := fun n hn => by
  obtain ⟨i, e⟩ := List.mem_iff_getElem?.mp hn
  have b := h.bound e
  have l := (List.getElem?_eq_some_iff.mp e).1
  have := h.len.2
  have z : (200 : Nat) < 2 ^ 1000 := by decide
  omega

/-! ### check_outline (of an outline), stops_of, stops -/
def sp_check_outline : Sp := fun vs H Q _ => ∃ (a : Addr) (ns : List Int) (L : Lg), vs = [.ref a] ∧ Led H L ∧ (a, .lst (ns.map V.int)) ∈ L ∧ Outline ns ∧ Tr L (fun H => Q .non H)
theorem use_check_outline {L : Lg} {Q : VK} {E : XK} {a : Addr} {ns : List Int} (hm : (a, .lst (ns.map V.int)) ∈ L) (ho : Outline ns) (k : Tr L fun H => Q .non H) : Tr L fun H => sp_check_outline [.ref a] H Q E := fun H l => ⟨a, ns, L, rfl, l, hm, ho, k⟩
theorem outIs_ints {L : Lg} {a : Addr} {ns : List Int} (hm : (a, .lst (ns.map V.int)) ∈ L) : OutIs L (.ref a) (outV (ns.map V.int)) :=
  .inl ⟨a, _, rfl, hm, fun y hy => by obtain ⟨n, _, rfl⟩ := List.mem_map.mp hy; exact ⟨_, .int n⟩, rfl⟩
theorem ok_check_outline (D : Df K mg "check_outline" s_check_outline) (k_is_outline : Ok P w K mg base CX0 2 "is_outline" ["value"] sp_is_outline) :
    Ok P w K mg base CX0 3 "check_outline" ["outline"] sp_check_outline := by
  obtain ⟨f, fd, hm, F⟩ := D
  refine ⟨f, fd, hm, F.kp, F.binds (fun _ _ _ _ _ _ us hl => match us, hl with | [_], _ => rfl), FunOkG F sc_check_outline (fun vs H Q E h => ?_) (fun cdv A outer s H vs Q E hr h => ?_), F.lk⟩
  · obtain ⟨a, ns, L, rfl, _⟩ := h; rfl
  · obtain ⟨a, ns, L, rfl, l, hm, ho, q⟩ := h
    refine ⟨_, PSs.nox (pss_one (ps_if (pt_not (pt_val (pe_callG k_is_outline (hr.mono (by omega)) pas0 (pa_cons (pv 0) pa_nil)))) pss_never
        pss_nil)), ?_⟩
    rw [show L2.start ["outline"] [.ref a] = [some (.ref a)] from rfl]
    refine Tr.of (L := L) ?_ l
    repeat walk_at "hz"
    refine use_is_outline (outIs_ints hm) ?_
    repeat walk_at "hz"
    refine t_ifF (by rw [show outV (ns.map V.int) = true from ho]; rfl) ?_
    repeat walk_at "hz"
    exact q
/-- line minus depth -/
def stopsFrom : Int → List Int → List Int
  | _, [] => []
  | k, d :: r => (k - d) :: stopsFrom (k + 1) r
def stopsI (ns : List Int) : List Int := stopsFrom 0 ns
theorem stopsFrom_len : ∀ (k : Int) (ns : List Int), (stopsFrom k ns).length = ns.length
  | _, [] => rfl
  | k, d :: r => by rw [stopsFrom, List.length_cons, List.length_cons, stopsFrom_len]
theorem stopsFrom_get : ∀ (k : Int) (ns : List Int) (i : Nat) (d : Int), ns[i]? = some d → (stopsFrom k ns)[i]? = some (k + i - d)
  | k, d :: r, 0, e, h => by
    cases h
    show some (k - d) = some (k + ((0 : Nat) : Int) - d)
    congr 1; omega
  | k, d :: r, i + 1, e, h => by
    show (stopsFrom (k + 1) r)[i]? = _
    rw [stopsFrom_get (k + 1) r i e (by simpa using h)]
    congr 1; omega
theorem map_get {α β : Type} {f : α → β} {xs : List α} {i : Nat} {y : β} (h : (xs.map f)[i]? = some y) : ∃ x, xs[i]? = some x ∧ y = f x := by
  rw [List.getElem?_map] at h
  cases e : xs[i]? with
  | none => rw [e] at h; cases h
  | some x => rw [e] at h; cases h; exact ⟨x, rfl, rfl⟩
theorem get_map {α β : Type} (f : α → β) {xs : List α} {i : Nat} {x : α} (h : xs[i]? = some x) : (xs.map f)[i]? = some (f x) := by rw [List.getElem?_map, h]; rfl
def sp_stops_of : Sp := fun vs H Q _ => ∃ (a : Addr) (ns : List Int) (L : Lg), vs = [.ref a] ∧ Led H L ∧ (a, .lst (ns.map V.int)) ∈ L ∧ ns.length ≤ 1000 ∧ ∀ p, Tr ((p, .lst ((stopsI ns).map V.int)) :: L) (fun H => Q (.ref p) H)
theorem use_stops_of {L : Lg} {Q : VK} {E : XK} {a : Addr} {ns : List Int} (hm : (a, .lst (ns.map V.int)) ∈ L) (hz : ns.length ≤ 1000) (k : ∀ p, Tr ((p, .lst ((stopsI ns).map V.int)) :: L) fun H => Q (.ref p) H) : Tr L fun H => sp_stops_of [.ref a] H Q E :=
  fun H l => ⟨a, ns, L, rfl, l, hm, hz, k⟩
theorem ok_stops_of (D : Df K mg "stops_of" s_stops_of) (B : Blt mg) : Ok P w K mg base CX0 1 "stops_of" ["outline"] sp_stops_of := by
  obtain ⟨f, fd, hm, F⟩ := D
  refine ⟨f, fd, hm, F.kp, F.binds (fun _ _ _ _ _ _ us hl => match us, hl with | [_], _ => rfl), FunOkG F sc_stops_of (fun vs H Q E h => ?_) (fun cdv A outer s H vs Q E hr h => ?_), F.lk⟩
  · obtain ⟨a, ns, L, rfl, _⟩ := h; rfl
  · obtain ⟨a, ns, L, rfl, l, hm, hz, q⟩ := h
    refine ⟨_, PSs.nox (pss_one (ps_ret (pe_lc (own := [("line", 1), ("depth", 2)]) (g := gTup _ 2 (gCons (gName 1) (gCons (gName 2) (gNil)))) (by rfl) sc_stops_of.nd (pi_enum (by rfl) B.enumerate_ (pa_cons (pv 0) pa_nil)) (blkOk_by (own := [("line", 1), ("depth", 2)]) (N := ["outline", "line", "depth"]) (sc := defScope s_stops_of) (by decide +kernel)) (fun _ _ _ _ _ => (pg_tup rfl (pgs_cons (pg_name (i := 1) sc_stops_of.nd rfl (.inl rfl)) (pgs_cons (pg_name (i := 2) sc_stops_of.nd rfl (.inl rfl)) pgs_nil)))) (fun _ _ _ _ _ => pts_nil) (fun _ _ _ _ _ => (pe_op op_sub (pv 1) (pv 2)))))), ?_⟩
    rw [show L2.start ["outline", "line", "depth"] [.ref a] = [some (.ref a), none, none] from rfl]
    refine Tr.of (L := L) ?_ l
    obtain ⟨R, hp⟩ := Pick.of_mem hm
    repeat walk_at "hz"
    refine t_lcMap wk_enum (by rfl) ((stopsI ns).map V.int) (by rw [List.length_map, stopsI, stopsFrom_len, List.length_map]) (fun x => ⟨_, hp.tail⟩) ?_ q
    rintro D i v L' hi ⟨T, x, rfl, hx, rfl⟩
    obtain ⟨d, hd, rfl⟩ := map_get hx
    rw [List.cons_append, List.nil_append]
    repeat walk_at "hz"
    refine t_lcMp (by walk_at "pk") ?_ (by rw [List.length_map, stopsI, stopsFrom_len]; exact Nat.le_trans hz (by decide)) (by walk_at "sb")
    rw [List.getElem?_map, stopsI, stopsFrom_get 0 ns i d hd, Int.zero_add]; rfl

/-! ### headings, by the ints -/
def hbk (f : Int → Int) : Nat → Int → List Int
  | 0, _ => []
  | k + 1, d => if f (k : Nat) < d then ((k : Nat) : Int) :: hbk f k (f (k : Nat)) else hbk f k d
/-- the last place below k where f is e -/
def lastW (f : Int → Int) (e : Int) : Nat → Int
  | 0 => -1
  | k + 1 => if f (k : Nat) = e then ((k : Nat) : Int) else lastW f e k
structure Stp (f : Int → Int) (n : Nat) : Prop where
  zero : f 0 = 0
  nn : ∀ i : Nat, i < n → 0 ≤ f i
  up : ∀ i : Nat, i + 1 < n → f ((i + 1 : Nat) : Int) ≤ f i + 1
theorem hbk_eq {f : Int → Int} {n : Nat} (S : Stp f n) : ∀ (k : Nat) (d : Int), k ≤ n → 0 ≤ d → (k = 0 → d = 0) → (∀ j : Nat, k = j + 1 → d ≤ f j + 1) →
    hbk f k d = ((List.range d.toNat).map fun e => lastW f (e : Nat) k).reverse
  | 0, d, _, _, h0, _ => by rw [h0 rfl]; rfl
  | k + 1, d, hk, hd, _, h1 => by
    have b := h1 k rfl
    have nn := S.nn k (by omega)
    have up : ∀ j : Nat, k = j + 1 → f k ≤ f j + 1 := fun j e => by subst e; exact S.up j (by omega)
    have z : k = 0 → f k = 0 := fun e => by subst e; exact S.zero
    unfold hbk
    by_cases h : f k < d
    · rw [if_pos h, hbk_eq S k (f k) (by omega) nn z up]
      obtain rfl : d = f k + 1 := by omega
      rw [show (f k + 1).toNat = (f k).toNat + 1 by omega, List.range_succ, List.map_append, List.reverse_append]
      congr 1
      · simp only [List.map_cons, List.map_nil, List.reverse_cons, List.reverse_nil, List.nil_append, List.cons.injEq, and_true]
        unfold lastW
        rw [if_pos (by omega)]
      · congr 1
        refine List.map_congr_left fun e he => ?_
        have := List.mem_range.mp he
        rw [show lastW f e (k + 1) = lastW f e k by rw [lastW, if_neg (by omega)]]
    · rw [if_neg h, hbk_eq S k d (by omega) hd (fun e => by have := z e; omega) fun j e => by have := up j e; omega]
      congr 1
      refine List.map_congr_left fun e he => ?_
      have := List.mem_range.mp he
      rw [show lastW f e (k + 1) = lastW f e k by rw [lastW, if_neg (by omega)]]
theorem hbk_len (f : Int → Int) : ∀ (k : Nat) (d : Int), (hbk f k d).length ≤ k
  | 0, _ => Nat.le_refl 0
  | k + 1, d => by
    unfold hbk
    split
    · have := hbk_len f k (f k)
      rw [List.length_cons]; omega
    · have := hbk_len f k d
      omega
/-- the headings of the line i -/
def hdI (ns : List Int) (i : Int) : List Int := (hbk (atD ns) i.toNat (atD ns i)).reverse
theorem hdI_len (ns : List Int) (i : Int) : (hdI ns i).length ≤ i.toNat := by unfold hdI; rw [List.length_reverse]; exact hbk_len _ _ _
theorem chainI_stp : ∀ (b : Int) (ns : List Int), chainI b ns → ∀ i : Nat, i + 1 < ns.length → atD ns ((i + 1 : Nat) : Int) ≤ atD ns (i : Nat) + 1
  | b, d :: e :: r, h, 0, _ => by
    show e ≤ d + 1
    exact h.2.2.2.1
  | b, d :: r, h, i + 1, hi => by
    have := chainI_stp d r h.2.2 i (by simpa using hi)
    exact this
theorem Outline.at {ns : List Int} (h : Outline ns) {i : Int} (h0 : 0 ≤ i) (h1 : i < ns.length) : 0 ≤ atD ns i ∧ atD ns i ≤ i := by
  have := h.bound (atD_get h0 h1)
  omega
theorem Outline.stp {ns : List Int} (h : Outline ns) : Stp (atD ns) ns.length where
  zero := by have := h.at (i := 0) (by omega) (by have := h.len; omega); omega
  nn := fun i hi => (h.at (i := (i : Nat)) (by omega) (by omega)).1
  up := chainI_stp _ _ h.chain
theorem hdI_eq {ns : List Int} (h : Outline ns) {i : Int} (h0 : 0 ≤ i) (h1 : i < ns.length) : hdI ns i = (List.range (atD ns i).toNat).map fun e => lastW (atD ns) (e : Nat) i.toNat := by
  have a := h.at h0 h1
  have S := h.stp
  unfold hdI
  rw [hbk_eq S i.toNat (atD ns i) (by omega) a.1 (fun e => by omega) fun j e => by
    have := S.up j (by omega)
    rw [← e, Int.toNat_of_nonneg h0] at this
    exact this]
  rw [List.reverse_reverse]
/-! ### the last line of a section -/
structure SecEnd (f : Int → Int) (n : Int) (p e : Int) : Prop where
  lo : p ≤ e
  hi : e < n
  deep : ∀ k, p < k → k ≤ e → f p < f k
  stop : e + 1 < n → f (e + 1) ≤ f p
theorem SecEnd.uniq {f : Int → Int} {n p e e' : Int} (h : SecEnd f n p e) (h' : SecEnd f n p e') : e = e' := by
  have key : ∀ {e e' : Int}, SecEnd f n p e → SecEnd f n p e' → ¬ e < e' := fun {e e'} h h' lt => by
    have a := h.stop (by have := h'.hi; omega)
    have b := h'.deep (e + 1) (by have := h.lo; omega) (by omega)
    omega
  have a := key h h'
  have b := key h' h
  omega
/-- the children between the line and the end of its section -/
def chI (ns : List Int) (p e : Int) : List Int := (rgI (p + 1) (e + 1)).filter fun k => decide (atD ns k = atD ns p + 1)
theorem fl_rg (f : Int → Bool) (a b : Int) : fl (fun i => f (a + (i : Nat))) (fun i => a + (i : Nat)) (b - a).toNat = (rgI a b).filter f := by
  unfold fl rgI
  rw [List.filter_map]
  rfl

/-! ### sums -/
def sg (n : Nat) (f : Nat → Int) : Int := ((List.range n).map f).sum
theorem sg_zero0 (f : Nat → Int) : sg 0 f = 0 := rfl
theorem sg_succ (n : Nat) (f : Nat → Int) : sg (n + 1) f = sg n f + f n := by
  unfold sg
  rw [List.range_succ, List.map_append, List.sum_append]
  simp
theorem sg_front (n : Nat) (f : Nat → Int) : sg (n + 1) f = f 0 + sg n fun i => f (i + 1) := by
  unfold sg
  rw [List.range_succ_eq_map, List.map_cons, List.sum_cons, List.map_map]
  rfl
theorem sg_congr {n : Nat} {f g : Nat → Int} (h : ∀ i, i < n → f i = g i) : sg n f = sg n g := by
  unfold sg
  rw [List.map_congr_left fun i hi => h i (List.mem_range.mp hi)]
theorem sg_nil (n : Nat) : sg n (fun _ => 0) = 0 := by
  induction n with
  | zero => rfl
  | succ n ih => rw [sg_succ, ih]; rfl
theorem sg_add (n : Nat) (f g : Nat → Int) : sg n (fun i => f i + g i) = sg n f + sg n g := by
  induction n with
  | zero => rfl
  | succ n ih => rw [sg_succ, sg_succ, sg_succ, ih]; omega
theorem sg_mul (n : Nat) (c : Int) (f : Nat → Int) : sg n (fun i => c * f i) = c * sg n f := by
  induction n with
  | zero => rw [sg_zero0, sg_zero0, Int.mul_zero]
  | succ n ih => rw [sg_succ, sg_succ, ih, Int.mul_add]
theorem sg_mulr (n : Nat) (c : Int) (f : Nat → Int) : sg n (fun i => f i * c) = sg n f * c := by
  rw [Int.mul_comm, ← sg_mul]
  exact sg_congr fun i _ => Int.mul_comm _ _
theorem sg_swap (m n : Nat) (f : Nat → Nat → Int) : sg m (fun i => sg n fun j => f i j) = sg n fun j => sg m fun i => f i j := by
  induction m with
  | zero => rw [sg_zero0, show (fun j => sg 0 fun i => f i j) = fun _ => (0 : Int) from rfl, sg_nil]
  | succ m ih =>
    rw [sg_succ, ih, ← sg_add]
    exact sg_congr fun j _ => (sg_succ m _).symm
theorem sg_mono {n : Nat} {f g : Nat → Int} (h : ∀ i, i < n → f i ≤ g i) : sg n f ≤ sg n g := by
  induction n with
  | zero => exact Int.le_refl _
  | succ n ih =>
    rw [sg_succ, sg_succ]
    have := ih fun i hi => h i (by omega)
    have := h n (by omega)
    omega
theorem sg_pos {n : Nat} {f : Nat → Int} (h : ∀ i, i < n → 0 ≤ f i) : 0 ≤ sg n f := by
  have := sg_mono h
  rw [sg_nil] at this
  exact this
theorem sg_const (n : Nat) (c : Int) : sg n (fun _ => c) = n * c := by
  induction n with
  | zero => rw [sg_zero0]; simp
  | succ n ih => rw [sg_succ, ih, Int.natCast_succ, Int.add_mul, Int.one_mul]
theorem sg_one {n k : Nat} {f : Nat → Int} (h : ∀ i, i < n → i ≠ k → f i = 0) (hk : k < n) : sg n f = f k := by
  induction n with
  | zero => omega
  | succ n ih =>
    rw [sg_succ]
    by_cases c : k = n
    · rw [sg_congr (g := fun _ => 0) fun i hi => h i (by omega) (by omega), sg_nil, c]; omega
    · rw [ih (fun i hi => h i (by omega)) (by omega), h n (by omega) (fun e => c e.symm)]; omega
theorem sum_sg : ∀ l : List Int, l.sum = sg l.length fun i => l.getD i 0
  | [] => rfl
  | x :: l => by
    rw [List.sum_cons, List.length_cons, sg_front, sum_sg l]
    rfl
theorem drop_sg : ∀ (l : List Int) (k : Nat), (l.drop k).sum = sg l.length fun i => if k ≤ i then l.getD i 0 else 0
  | [], k => by rw [List.drop_nil]; rfl
  | x :: l, 0 => by
    rw [List.drop_zero, sum_sg]
    exact sg_congr fun i _ => by rw [if_pos (Nat.zero_le _)]
  | x :: l, k + 1 => by
    rw [List.drop_succ_cons, drop_sg l k, List.length_cons, sg_front, if_neg (by omega), Int.zero_add]
    refine sg_congr fun i _ => ?_
    by_cases c : k ≤ i
    · rw [if_pos c, if_pos (by omega)]; rfl
    · rw [if_neg c, if_neg (by omega)]
theorem take_sg (l : List Int) (k : Nat) : (l.take k).sum = sg l.length fun i => if i < k then l.getD i 0 else 0 := by
  have h : (l.take k).sum + (l.drop k).sum = l.sum := by rw [← List.sum_append, List.take_append_drop]
  rw [drop_sg, sum_sg l] at h
  have e : (sg l.length fun i => if i < k then l.getD i 0 else 0) + (sg l.length fun i => if k ≤ i then l.getD i 0 else 0) = sg l.length fun i => l.getD i 0 := by
    rw [← sg_add]
    refine sg_congr fun i _ => ?_
    by_cases c : k ≤ i
    · rw [if_pos c, if_neg (by omega)]; omega
    · rw [if_neg c, if_pos (by omega)]; omega
  omega
theorem sum_rev : ∀ l : List Int, l.reverse.sum = l.sum
  | [] => rfl
  | x :: l => by rw [List.reverse_cons, List.sum_append, sum_rev l, List.sum_cons]; simp; omega
theorem rev_take_sum (l : List Int) (k : Nat) : (l.reverse.take k).sum = (l.drop (l.length - k)).sum := by
  rw [List.take_reverse, sum_rev]
theorem atD_snoc {ns : List Int} {v : Int} {k : Int} (h0 : 0 ≤ k) : atD (ns ++ [v]) k = if k = ns.length then v else atD ns k := by
  unfold atD
  rw [List.getD_eq_getElem?_getD, List.getD_eq_getElem?_getD]
  by_cases c : k = ns.length
  · rw [if_pos c, show k.toNat = ns.length by omega, List.getElem?_append_right (Nat.le_refl _), Nat.sub_self]; rfl
  · rw [if_neg c]
    by_cases d : k.toNat < ns.length
    · rw [List.getElem?_append_left d]
    · rw [List.getElem?_eq_none (by rw [List.length_append, List.length_singleton]; omega), List.getElem?_eq_none (by omega)]
theorem atD_set {ns : List Int} {v : Int} {i k : Int} (h0 : 0 ≤ i) (h1 : i < ns.length) (hk : 0 ≤ k) : atD (ns.set i.toNat v) k = if k = i then v else atD ns k := by
  unfold atD
  rw [List.getD_eq_getElem?_getD, List.getD_eq_getElem?_getD, List.getElem?_set]
  by_cases c : k = i
  · rw [if_pos c, if_pos (by rw [c]), if_pos (by omega)]; rfl
  · rw [if_neg c, if_neg (by omega)]
theorem atD_out {ns : List Int} {k : Int} (h : (ns.length : Int) ≤ k) : atD ns k = 0 := by
  unfold atD
  rw [List.getD_eq_getElem?_getD, List.getElem?_eq_none (by omega)]
  rfl
theorem atD_rep {n : Nat} {v : Int} {k : Int} (h0 : 0 ≤ k) (h1 : k < n) : atD (List.replicate n v) k = v := by
  unfold atD
  rw [List.getD_eq_getElem?_getD, List.getElem?_replicate, if_pos (by omega)]
  rfl
theorem atD_rev {ns : List Int} {k : Int} (h0 : 0 ≤ k) (h1 : k < ns.length) : atD ns.reverse k = atD ns ((ns.length : Int) - 1 - k) := by
  unfold atD
  rw [List.getD_eq_getElem?_getD, List.getD_eq_getElem?_getD, List.getElem?_reverse (by omega), show ns.length - 1 - k.toNat = ((ns.length : Int) - 1 - k).toNat by omega]
theorem atD_i {ns : List Int} (k : Nat) : atD ns (k : Int) = ns.getD k 0 := rfl
theorem atD_app_l {xs ys : List Int} {k : Int} (h0 : 0 ≤ k) (h1 : k < xs.length) : atD (xs ++ ys) k = atD xs k := by
  unfold atD
  rw [List.getD_eq_getElem?_getD, List.getD_eq_getElem?_getD, List.getElem?_append_left (by omega)]
theorem atD_app_r {xs ys : List Int} {k : Int} (h1 : (xs.length : Int) ≤ k) : atD (xs ++ ys) k = atD ys (k - xs.length) := by
  unfold atD
  rw [List.getD_eq_getElem?_getD, List.getD_eq_getElem?_getD, List.getElem?_append_right (by omega), show k.toNat - xs.length = (k - xs.length).toNat by omega]

/-! ### outlines in order: how many ways to go on, and which -/
/-- ways to add so many lines behind a line of this depth -/
def wy (top : Nat) : Nat → Nat → Int
  | 0, _ => 1
  | r + 1, d => sg (min (d + 1) top + 1) (wy top r)
/-- these lines, in ascending order -/
def gro (top : Nat) : Nat → Nat → List (List Int)
  | 0, _ => [[]]
  | r + 1, d => (List.range (min (d + 1) top + 1)).flatMap fun e => (gro top r e).map fun l => (e : Int) :: l
theorem len_range_flat {α : Type} (g : Nat → List α) : ∀ n : Nat, (((List.range n).flatMap g).length : Int) = sg n fun e => ((g e).length : Int)
  | 0 => rfl
  | n + 1 => by
    rw [List.range_succ, List.flatMap_append, List.length_append, sg_succ, ← len_range_flat g n, List.flatMap_cons, List.flatMap_nil, List.append_nil]
    omega
theorem gro_len (top : Nat) : ∀ r d, ((gro top r d).length : Int) = wy top r d
  | 0, _ => rfl
  | r + 1, d => by
    rw [gro, len_range_flat, wy]
    exact sg_congr fun e _ => by rw [List.length_map, gro_len top r e]
theorem wy_pos (top r d : Nat) : 0 ≤ wy top r d := by rw [← gro_len]; omega
theorem wy_one (top : Nat) : ∀ r d, 1 ≤ wy top r d
  | 0, _ => by rw [wy]; decide
  | r + 1, d => by
    rw [wy, sg_front]
    have a := wy_one top r 0
    have b := sg_pos (n := min (d + 1) top) (f := fun i => wy top r (i + 1)) fun i _ => wy_pos top r _
    omega
/-- an item by its block -/
theorem flat_at {α : Type} (g : Nat → List α) : ∀ (n e : Nat) (i : Nat), e < n → i < (g e).length → ∃ j : Nat, (j : Int) = (sg e fun k => ((g k).length : Int)) + i ∧ ((List.range n).flatMap g)[j]? = (g e)[i]?
  | 0, e, i, h, _ => by omega
  | n + 1, e, i, h, hi => by
    by_cases c : e < n
    · obtain ⟨j, h1, h2⟩ := flat_at g n e i c hi
      refine ⟨j, h1, ?_⟩
      rw [List.range_succ, List.flatMap_append, List.getElem?_append_left ?_]
      · exact h2
      · rw [List.getElem?_eq_getElem hi] at h2
        exact (List.getElem?_eq_some_iff.mp h2).1
    · obtain rfl : e = n := by omega
      refine ⟨((List.range e).flatMap g).length + i, by rw [← len_range_flat]; omega, ?_⟩
      rw [List.range_succ, List.flatMap_append, List.getElem?_append_right (by omega), Nat.add_sub_cancel_left, List.flatMap_cons, List.flatMap_nil, List.append_nil]
theorem flat_in {α : Type} (g : Nat → List α) : ∀ (n : Nat) (j : Nat) (x : α), ((List.range n).flatMap g)[j]? = some x → ∃ e i, e < n ∧ i < (g e).length ∧ (j : Int) = (sg e fun k => ((g k).length : Int)) + i ∧ (g e)[i]? = some x
  | 0, j, x, h => by simp at h
  | n + 1, j, x, h => by
    rw [List.range_succ, List.flatMap_append, List.flatMap_cons, List.flatMap_nil, List.append_nil] at h
    by_cases c : j < ((List.range n).flatMap g).length
    · rw [List.getElem?_append_left c] at h
      obtain ⟨e, i, a, b⟩ := flat_in g n j x h
      exact ⟨e, i, by omega, b⟩
    · rw [List.getElem?_append_right (by omega)] at h
      have hl := (List.getElem?_eq_some_iff.mp h).1
      refine ⟨n, j - ((List.range n).flatMap g).length, by omega, hl, ?_, h⟩
      rw [← len_range_flat]
      omega
/-- the index of lines -/
def rk (top : Nat) : Nat → List Int → Int
  | _, [] => 0
  | 0, _ => 0
  | r + 1, e :: l => sg e.toNat (wy top r) + rk top r l
theorem rk_at (top : Nat) : ∀ (r d j : Nat) (l : List Int), (gro top r d)[j]? = some l → rk top r l = j ∧ l.length = r ∧ ∀ x ∈ l, 0 ≤ x ∧ x ≤ top
  | 0, d, j, l, h => by
    rw [gro] at h
    cases j with
    | zero =>
      obtain rfl : [] = l := Option.some.inj h
      exact ⟨rfl, rfl, fun x hx => nomatch hx⟩
    | succ j => simp at h
  | r + 1, d, j, l, h => by
    rw [gro] at h
    obtain ⟨e, i, he, hi, hj, hx⟩ := flat_in _ _ j l h
    rw [List.length_map] at hi
    rw [List.getElem?_map, List.getElem?_eq_getElem hi] at hx
    obtain rfl := Option.some.inj hx
    obtain ⟨a, b, c⟩ := rk_at top r e i _ (List.getElem?_eq_getElem hi)
    refine ⟨?_, by rw [List.length_cons, b], fun x hx => ?_⟩
    · rw [rk, a, hj, Int.toNat_natCast]
      congr 1
      exact sg_congr fun k _ => by rw [List.length_map, gro_len]
    · rcases List.mem_cons.mp hx with rfl | hx
      · omega
      · exact c x hx
/-- the lines with an index: the first one of them -/
theorem gro_step (top : Nat) {r d e i : Nat} (he : e ≤ min (d + 1) top) (hi : (i : Int) < wy top r e) {l : List Int} (hl : (gro top r e)[i]? = some l) :
    ∃ j : Nat, (j : Int) = sg e (wy top r) + i ∧ (gro top (r + 1) d)[j]? = some ((e : Int) :: l) := by
  obtain ⟨j, h1, h2⟩ := flat_at (fun e => (gro top r e).map fun l => (e : Int) :: l) (min (d + 1) top + 1) e i (by omega) (by rw [List.length_map]; have := gro_len top r e; omega)
  refine ⟨j, ?_, ?_⟩
  · rw [h1]
    congr 1
    exact sg_congr fun k _ => by rw [List.length_map, gro_len]
  · rw [gro, h2, List.getElem?_map, hl]; rfl
/-- the same, written line by line -/
theorem gro_snoc (top : Nat) : ∀ r d : Nat, gro top (r + 1) d = (gro top r d).flatMap fun l => (List.range ((min (lastD (d : Int) l + 1) (top : Int)).toNat + 1)).map fun (e : Nat) => l ++ [(e : Int)]
  | 0, d => by
    rw [gro, gro, List.flatMap_cons, List.flatMap_nil, List.append_nil]
    have e : (min (lastD (d : Int) [] + 1) (top : Int)).toNat = min (d + 1) top := by
      show (min ((d : Int) + 1) (top : Int)).toNat = min (d + 1) top
      omega
    rw [e]
    have f : (fun e : Nat => (gro top 0 e).map fun l => (e : Int) :: l) = fun (e : Nat) => [[(e : Int)]] := by funext e; rfl
    rw [f]
    generalize List.range (min (d + 1) top + 1) = xs
    induction xs with
    | nil => rfl
    | cons x xs ih => rw [List.flatMap_cons, ih]; rfl
  | r + 1, d => by
    have e1 : gro top (r + 1 + 1) d = (List.range (min (d + 1) top + 1)).flatMap fun e => (gro top (r + 1) e).map fun l => (e : Int) :: l := by rw [gro]
    have e2 : gro top (r + 1) d = (List.range (min (d + 1) top + 1)).flatMap fun e => (gro top r e).map fun l => (e : Int) :: l := by rw [gro]
    rw [e1, e2, List.flatMap_assoc]
    congr 1
    funext e
    rw [gro_snoc top r e, List.map_flatMap, List.flatMap_map]
    congr 1
    funext l
    rw [List.map_map]
    rfl
/-- rows of ways -/
def rwy (top r : Nat) : List Int := (List.range (top + 1)).map (wy top r)
def rwsY (top n : Nat) : List (List Int) := (List.range n).map (rwy top)
theorem rwy_len (top r : Nat) : (rwy top r).length = top + 1 := by unfold rwy; rw [List.length_map, List.length_range]
theorem rwy_at {top r e : Nat} (h : e ≤ top) : (rwy top r)[e]? = some (wy top r e) := by
  unfold rwy
  rw [List.getElem?_map, List.getElem?_range (by omega)]; rfl

/-! ### numbers of outlines -/
/-- sums of the first ways -/
def smy (top r k : Nat) : List Int := (List.range k).map fun i => sg i (wy top r)
theorem smy_len (top r k : Nat) : (smy top r k).length = k := by unfold smy; rw [List.length_map, List.length_range]
theorem smy_snoc (top r k : Nat) : smy top r (k + 1) = smy top r k ++ [sg k (wy top r)] := by unfold smy; rw [List.range_succ, List.map_append]; rfl
theorem smy_at {top r k i : Nat} (h : i < k) : (smy top r k)[i]? = some (sg i (wy top r)) := by
  unfold smy
  rw [List.getElem?_map, List.getElem?_range h]; rfl
theorem rwsY_snoc (top n : Nat) : rwsY top (n + 1) = rwsY top n ++ [rwy top n] := by unfold rwsY; rw [List.range_succ, List.map_append]; rfl
theorem rwsY_len (top n : Nat) : (rwsY top n).length = n := by unfold rwsY; rw [List.length_map, List.length_range]
theorem rwsY_at {top n r : Nat} (h : r < n) : (rwsY top n)[r]? = some (rwy top r) := by
  unfold rwsY
  rw [List.getElem?_map, List.getElem?_range h]; rfl
def sp_check_sizes  : Sp := fun vs H Q E => ∃ (n b : Int) (L : Lg), vs = [.int n, .int b] ∧ Led H (L) ∧ (1 ≤ n ∧ n ≤ 200) ∧ (0 ≤ b ∧ b ≤ 200) ∧ Tr (L) (fun H => Q (.non) H)
theorem use_check_sizes {L : Lg} {Q : VK} {E : XK} {n b : Int} (hn : 1 ≤ n ∧ n ≤ 200) (hb : 0 ≤ b ∧ b ≤ 200) (q : Tr (L) (fun H => Q (.non) H)) : Tr L fun H => sp_check_sizes [.int n, .int b] H Q E :=
  fun H l => ⟨n, b, L, rfl, l, hn, hb, q⟩

theorem ok_check_sizes (D : Df K mg "check_sizes" s_check_sizes) (B : Blt mg) (g_MAX_LINES_counting : GV mg "MAX_LINES_counting" (.int 200)) (g_MAX_DEPTH : GV mg "MAX_DEPTH" (.int 200)) (k_is_integer : Ok P w K mg base CX0 1 "is_integer" ["value"] sp_is_integer) : Ok P w K mg base CX0 2 "check_sizes" ["lines", "deepest"] sp_check_sizes := by
  obtain ⟨f, fd, hm, F⟩ := D
  refine ⟨f, fd, hm, F.kp, F.binds (fun _ _ _ _ _ _ us hl => match us, hl with | [_, _], _ => rfl), FunOkG F sc_check_sizes (fun vs H Q E h => ?_) (fun cdv A outer s H vs Q E hr h => ?_), F.lk⟩
  · obtain ⟨_, _, _, rfl, _⟩ := h; rfl
  obtain ⟨n, b, L, rfl, l, hn, hb, q⟩ := h
  refine ⟨_, PSs.nox (pss_cons (ps_if (PW.pt (pw_or (pt_not (pt_val (pe_callG k_is_integer (hr.mono (by omega)) pas0 (pa_cons (pv 0) pa_nil)))) (pw_or1 (pt_not (pt_chain op_le op_le pe_int (pv 0) (pe_gv g_MAX_LINES_counting)))))) pss_never
        pss_nil)
      (pss_one (ps_if (PW.pt (pw_or (pt_not (pt_val (pe_callG k_is_integer (hr.mono (by omega)) pas0 (pa_cons (pv 1) pa_nil)))) (pw_or1 (pt_not (pt_chain op_le op_le pe_int (pv 1) (pe_gv g_MAX_DEPTH)))))) pss_never
        pss_nil))), ?_⟩
  rw [show L2.start ["lines", "deepest"] [.int n, .int b] = [some (.int n), some (.int b)] from rfl]
  refine Tr.of ?_ l
  repeat walk_at "hz"
  obtain ⟨n0, n1⟩ := hn
  obtain ⟨b0, b1⟩ := hb
  refine use_is_integer (.int n) ?_
  repeat walk_at "hz"
  refine use_is_integer (.int b) ?_
  repeat walk_at "hz"
  exact q
def sp_continuations  : Sp := fun vs H Q E => ∃ (n b : Int) (L : Lg), vs = [.int n, .int b] ∧ Led H (L) ∧ (1 ≤ n ∧ n ≤ 200) ∧ (0 ≤ b ∧ b ≤ 200) ∧ ∀ (p : Addr) (us : List V) (N : Lg), (Rws N us (rwsY (min b (n - 1)).toNat n.toNat)) → Tr ((p, .lst us) :: (N ++ L)) (fun H => Q (.ref p) H)
theorem use_continuations {L : Lg} {Q : VK} {E : XK} {n b : Int} (hn : 1 ≤ n ∧ n ≤ 200) (hb : 0 ≤ b ∧ b ≤ 200) (q : ∀ (p : Addr) (us : List V) (N : Lg), (Rws N us (rwsY (min b (n - 1)).toNat n.toNat)) → Tr ((p, .lst us) :: (N ++ L)) (fun H => Q (.ref p) H)) : Tr L fun H => sp_continuations [.int n, .int b] H Q E :=
  fun H l => ⟨n, b, L, rfl, l, hn, hb, q⟩

theorem ok_continuations (D : Df K mg "continuations" s_continuations) (B : Blt mg) : Ok P w K mg base CX0 1 "continuations" ["lines", "deepest"] sp_continuations := by
  obtain ⟨f, fd, hm, F⟩ := D
  refine ⟨f, fd, hm, F.kp, F.binds (fun _ _ _ _ _ _ us hl => match us, hl with | [_, _], _ => rfl), FunOkG F sc_continuations (fun vs H Q E h => ?_) (fun cdv A outer s H vs Q E hr h => ?_), F.lk⟩
  · obtain ⟨_, _, _, rfl, _⟩ := h; rfl
  obtain ⟨n, b, L, rfl, l, hn, hb, q⟩ := h
  refine ⟨_, PSs.nox (pss_cons (ps_set (i := 2) sc_continuations.nd rfl (.inr rfl) (pe_callB (c_min2 rfl) rfl B.min_ boot_min (pa_cons (pv 1) (pa_cons (pe_op op_sub (pv 0) pe_int) pa_nil))))
      (pss_cons (ps_set (i := 3) sc_continuations.nd rfl (.inl rfl) (pe_lst (pa_cons (pe_op op_rep (pe_lst (pa_cons pe_int pa_nil)) (pe_op op_add (pv 2) pe_int)) pa_nil)))
      (pss_cons (ps_for PassesOwn.never rfl (pi_range1 rfl B.range_ (pa_cons (pe_op op_sub (pv 0) pe_int) pa_nil)) (pg_name (i := 4) sc_continuations.nd rfl (.inl rfl))
        (pss_cons (ps_set (i := 5) sc_continuations.nd rfl (.inr rfl) (pe_lst (pa_cons pe_int pa_nil)))
      (pss_cons (ps_for PassesOwn.never rfl (pi_list (pe_ix ix_list (pv 3) (pe_un un_neg pe_int) (fun _ _ => rfl))) (pg_name (i := 6) sc_continuations.nd rfl (.inl rfl))
        (pss_one (ps_expr (pe_bm PySem.F.plainAttrs_list PySem.F.slot_list_append PySem.F.type_list_append mt_append (pv 5) (pa_cons (pe_op op_add (pe_ix ix_list (pv 5) (pe_un un_neg pe_int) (fun _ _ => rfl)) (pv 6)) pa_nil)))))
      (pss_one (ps_expr (pe_bm PySem.F.plainAttrs_list PySem.F.slot_list_append PySem.F.type_list_append mt_append (pv 3) (pa_cons (pe_lc (own := [("depth", 7)]) (g := gName 7) (by rfl) sc_continuations.nd (pi_range1 rfl B.range_ (pa_cons (pe_op op_add (pv 2) pe_int) pa_nil)) (blkOk_by (own := [("depth", 7)]) (N := ["lines", "deepest", "top", "rows", "step", "sums", "ways", "depth"]) (sc := defScope s_continuations) (by decide +kernel)) (fun _ _ _ _ _ => (pg_name (i := 7) sc_continuations.nd rfl (.inl rfl))) (fun _ _ _ _ _ => pts_nil) (fun _ _ _ _ _ => (pe_ix (show IxR _ (rIxL K) from ix_list) (pv 5) (pe_op op_add (pe_callB (c_min2 rfl) rfl B.min_ boot_min (pa_cons (pe_op op_add (pv 7) pe_int) (pa_cons (pv 2) pa_nil))) pe_int) (fun _ _ => rfl)))) pa_nil)))))))
      (pss_one (ps_ret (pv 3)))))), ?_⟩
  rw [show L2.start ["lines", "deepest", "top", "rows", "step", "sums", "ways", "depth"] [.int n, .int b] = [some (.int n), some (.int b), none, none, none, none, none, none] from rfl]
  refine Tr.of ?_ l
  repeat walk_at "hz"
  obtain ⟨n0, n1⟩ := hn
  obtain ⟨b0, b1⟩ := hb
  obtain ⟨top, htop⟩ : ∃ top : Nat, min b (n - 1) = (top : Int) := ⟨(min b (n - 1)).toNat, by omega⟩
  rw [htop] at q ⊢
  rw [Int.toNat_natCast] at q
  have t1 : top ≤ 200 := by omega
  repeat walk_at "hz"
  refine t_rep (by walk_at "pk") (by omega) (by omega) (by rw [sizeLine_eq]; simp; omega) fun z1 => ?_
  refine Tr.lcast (rep_ints _ 1) ?_
  have r0 : List.replicate ((top : Int) + 1).toNat (1 : Int) = rwy top 0 := by
    unfold rwy
    rw [show ((top : Int) + 1).toNat = top + 1 by omega]
    refine List.ext_getElem? fun i => ?_
    rw [List.getElem?_replicate, List.getElem?_map]
    by_cases c : i < top + 1
    · rw [if_pos c, List.getElem?_range c]; rfl
    · rw [if_neg c, List.getElem?_eq_none (by rw [List.length_range]; omega)]; rfl
  rw [r0]
  repeat walk_at "hz"
  rename_i p0
  refine t_forK wk_range (fun t ((us, T, N, j4, j5, j6, j7) : (List V) × Addr × Lg × Option V × Option V × Option V × Option V) => [some (.int n), some (.int b), some (.int top), some (.ref p0), j4, j5, j6, j7]) (fun t ((us, T, N, j4, j5, j6, j7) : (List V) × Addr × Lg × Option V × Option V × Option V × Option V) => (p0, .lst (us ++ [.ref T])) :: (N ++ L)) (fun t ((us, T, N, j4, j5, j6, j7) : (List V) × Addr × Lg × Option V × Option V × Option V × Option V) => Rws N (us ++ [.ref T]) (rwsY top (t + 1)) ∧ (T, HO.lst ((rwy top t).map V.int)) ∈ N) ⟨([], z1, [(z1, .lst ((rwy top 0).map V.int))], _, _, _, _), ⟨Rws.one (.head _), .head _⟩, rfl, (by walk_at "sb")⟩ (fun _ _ _ => trivial) ?_ ?_
  · rintro t ⟨us, T, N, j4, j5, j6, j7⟩ v L' ht ⟨hR, mT⟩ ⟨rfl, rfl⟩
    try dsimp only at hR mT ⊢
    simp only [List.nil_append, List.cons_append]
    have hl := hR.len
    rw [rwsY_len] at hl
    obtain ⟨RT, pT⟩ := Pick.of_mem (List.mem_append_left L mT)
    repeat walk_at "hz"
    refine t_ixL (by walk_at "pk") (atI_last us _) ?_
    repeat walk_at "hz"
    rename_i ps
    refine t_forK (wk_list (xs := (rwy top t).map V.int)) (fun u ((j4, j6, j7) : Option V × Option V × Option V) => [some (.int n), some (.int b), some (.int top), some (.ref p0), j4, some (.ref ps), j6, j7]) (fun u ((j4, j6, j7) : Option V × Option V × Option V) => (ps, .lst ((smy top t (u + 1)).map V.int)) :: (p0, .lst (us ++ [.ref T])) :: (N ++ L)) (fun u ((j4, j6, j7) : Option V × Option V × Option V) => True) ⟨(_, _, _), trivial, rfl, (by walk_at "sb")⟩ (fun _ _ _ => ⟨_, (by walk_at "pk")⟩) ?_ ?_
    · rintro u ⟨j4, j6, j7⟩ v L' hu - ⟨hv, rfl⟩
      try dsimp only at  ⊢
      simp only [List.nil_append, List.cons_append]
      obtain ⟨w1, hw, rfl⟩ := map_get hv
      rw [List.length_map, rwy_len] at hu
      obtain rfl : wy top t u = w1 := Option.some.inj ((rwy_at (r := t) (show u ≤ top by omega)).symm.trans hw)
      have sl := smy_len top t (u + 1)
      repeat walk_at "hz"
      refine t_ixL (by walk_at "pk") (by rw [smy_snoc]; exact at_lastI _ _) ?_
      repeat walk_at "hz"
      rw [show sg u (wy top t) + wy top t u = sg (u + 1) (wy top t) from (sg_succ _ _).symm, ← smy_snoc top t (u + 1)]
      refine t_pst (_, _, _) trivial rfl (by walk_at "sb")
    · rintro ⟨j4, j6, j7⟩ -
      try dsimp only at  ⊢
      rw [List.length_map, rwy_len]
      have sl := smy_len top t (top + 1 + 1)
      repeat walk_at "hz"
      refine t_lcMap wk_range (by rfl) ((rwy top (t + 1)).map V.int) (by rw [List.length_map, rwy_len]; omega) (fun _ => trivial) ?_ ?_
      · rintro D i v L' hi ⟨rfl, rfl⟩
        rw [List.nil_append, Int.zero_add]
        repeat walk_at "hz"
        have sa := smy_at (top := top) (r := t) (k := top + 1 + 1) (i := min (i + 1) top + 1) (by omega)
        rw [show atD (smy top t (top + 1 + 1)) (min ((i : Int) + 1) (top : Int) + 1) = wy top (t + 1) i by rw [show min ((i : Int) + 1) (top : Int) + 1 = ((min (i + 1) top + 1 : Nat) : Int) by omega]; exact atD_nat sa]
        exact t_lcMp (by walk_at "pk") (get_map _ (rwy_at (r := t + 1) (show i ≤ top by omega))) (by rw [sizeLine_eq, List.length_map, rwy_len]; omega) (by walk_at "sb")
      intro D
      repeat walk_at "hz"
      rename_i j6x
      have nw : Rws ((D, .lst ((rwy top (t + 1)).map V.int)) :: N) ((us ++ [.ref T]) ++ [.ref D]) (rwsY top (t + 1 + 1)) := by
        rw [rwsY_snoc top (t + 1)]
        exact (hR.mono fun _ h => .tail _ h).snoc (.head _)
      refine t_pst (us ++ [.ref T], D, (D, .lst ((rwy top (t + 1)).map V.int)) :: N, _, _, _, _) ⟨nw, .head _⟩ rfl (by walk_at "sb")
  · rintro ⟨us, T, N, j4, j5, j6, j7⟩ ⟨hR, mT⟩
    try dsimp only at hR mT ⊢
    repeat walk_at "hz"
    rw [show (n - 1).toNat + 1 = n.toNat by omega] at hR
    exact (q p0 _ N hR).sub (by walk_at "sb")

def cntO (n b : Int) : Int := wy (min b (n - 1)).toNat (n.toNat - 1) 0
theorem Rws.last {N : Lg} {us : List V} {rs0 : List (List Int)} {r : List Int} (h : Rws N us (rs0 ++ [r])) : ∃ us0 T, us = us0 ++ [V.ref T] ∧ us0.length = rs0.length ∧ (T, HO.lst (r.map V.int)) ∈ N := by
  have hl := h.len
  rw [List.length_append, List.length_singleton] at hl
  have e : us[rs0.length]? = some us[rs0.length] := List.getElem?_eq_getElem (by omega)
  obtain ⟨T, r', e1, e2, m⟩ := h.at e
  rw [List.getElem?_append_right (Nat.le_refl _), Nat.sub_self] at e2
  obtain rfl := Option.some.inj e2
  refine ⟨us.dropLast, T, ?_, by rw [List.length_dropLast]; omega, m⟩
  have g := List.dropLast_concat_getLast (l := us) (fun c => by rw [c] at hl; simp at hl)
  rw [List.getLast_eq_getElem] at g
  have e3 : us[us.length - 1]'(by omega) = V.ref T := by
    have : us[us.length - 1]? = some (V.ref T) := by rw [show us.length - 1 = rs0.length by omega, e, e1]
    rw [List.getElem?_eq_getElem (by omega)] at this
    exact Option.some.inj this
  rw [e3] at g
  exact g.symm
def sp_count_outlines  : Sp := fun vs H Q E => ∃ (n b : Int) (L : Lg), vs = [.int n, .int b] ∧ Led H (L) ∧ (1 ≤ n ∧ n ≤ 200) ∧ (0 ≤ b ∧ b ≤ 200) ∧ Tr (L) (fun H => Q (.int (cntO n b)) H)
theorem use_count_outlines {L : Lg} {Q : VK} {E : XK} {n b : Int} (hn : 1 ≤ n ∧ n ≤ 200) (hb : 0 ≤ b ∧ b ≤ 200) (q : Tr (L) (fun H => Q (.int (cntO n b)) H)) : Tr L fun H => sp_count_outlines [.int n, .int b] H Q E :=
  fun H l => ⟨n, b, L, rfl, l, hn, hb, q⟩

theorem ok_count_outlines (D : Df K mg "count_outlines" s_count_outlines) (B : Blt mg) (k_check_sizes : Ok P w K mg base CX0 2 "check_sizes" ["lines", "deepest"] sp_check_sizes) (k_continuations : Ok P w K mg base CX0 1 "continuations" ["lines", "deepest"] sp_continuations) : Ok P w K mg base CX0 3 "count_outlines" ["lines", "deepest"] sp_count_outlines := by
  obtain ⟨f, fd, hm, F⟩ := D
  refine ⟨f, fd, hm, F.kp, F.binds (fun _ _ _ _ _ _ us hl => match us, hl with | [_, _], _ => rfl), FunOkG F sc_count_outlines (fun vs H Q E h => ?_) (fun cdv A outer s H vs Q E hr h => ?_), F.lk⟩
  · obtain ⟨_, _, _, rfl, _⟩ := h; rfl
  obtain ⟨n, b, L, rfl, l, hn, hb, q⟩ := h
  refine ⟨_, PSs.nox (pss_cons (ps_expr (pe_callG k_check_sizes (hr.mono (by omega)) pas0 (pa_cons (pv 0) (pa_cons (pv 1) pa_nil))))
      (pss_one (ps_ret (pe_ix ix_list (pe_ix ix_list (pe_callG k_continuations (hr.mono (by omega)) pas0 (pa_cons (pv 0) (pa_cons (pv 1) pa_nil))) (pe_un un_neg pe_int) (fun _ _ => rfl)) pe_int (fun _ _ => rfl))))), ?_⟩
  rw [show L2.start ["lines", "deepest"] [.int n, .int b] = [some (.int n), some (.int b)] from rfl]
  refine Tr.of ?_ l
  repeat walk_at "hz"
  refine use_check_sizes hn hb ?_
  repeat walk_at "hz"
  refine use_continuations hn hb fun p us N hR => ?_
  have e : n.toNat = (n.toNat - 1) + 1 := by omega
  rw [e, rwsY_snoc] at hR
  obtain ⟨us0, T, rfl, ul, mT⟩ := hR.last
  obtain ⟨RT, pT⟩ := Pick.of_mem (List.mem_append_left L mT)
  repeat walk_at "hz"
  refine t_ixL (by walk_at "pk") (atI_last us0 _) ?_
  have rl := rwy_len (min b (n - 1)).toNat (n.toNat - 1)
  repeat walk_at "hz"
  have g : atD (rwy (min b (n - 1)).toNat (n.toNat - 1)) 0 = cntO n b := atD_nat (i := 0) (rwy_at (Nat.zero_le _))
  rw [g]
  exact q.sub (by walk_at "sb")
/-- one that is in the range -/
def idxOk (c : Int) : V → Bool
  | .int i => decide (0 ≤ i) && decide (i < c)
  | _ => false
def idxN : V → Nat
  | .int i => i.toNat
  | _ => 0
theorem idxOk_int {c : Int} {x : V} (h : idxOk c x = true) : ∃ i, x = .int i ∧ 0 ≤ i ∧ i < c := by
  cases x with
  | int i =>
    have := (Bool.and_eq_true _ _).mp h
    exact ⟨i, rfl, of_decide_eq_true this.1, of_decide_eq_true this.2⟩
  | _ => cases h
def sp_nth_outline (C_InvalidNumberError : Addr) : Sp := fun vs H Q E => ∃ (n b : Int) (x : V) (T : String) (L : Lg), vs = [.int n, .int b, x] ∧ Led H (L) ∧ (1 ≤ n ∧ n ≤ 200) ∧ (0 ≤ b ∧ b ≤ 200) ∧ (HasTy L x T) ∧ ((idxOk (cntO n b) x = true) → (∀ (p : Addr) (ds : List Int), ((gro (min b (n - 1)).toNat (n.toNat - 1) 0)[idxN x]? = some ds) → Tr ((p, .lst ((0 :: ds).map V.int)) :: L) (fun H => Q (.ref p) H))) ∧ ((idxOk (cntO n b) x = false) → Tr (L) (fun H => E (.ref C_InvalidNumberError) none H))
theorem use_nth_outline {L : Lg} {Q : VK} {E : XK} {n b : Int} {x : V} {T : String} (hn : 1 ≤ n ∧ n ≤ 200) (hb : 0 ≤ b ∧ b ≤ 200) (hx : HasTy L x T) (q : (idxOk (cntO n b) x = true) → (∀ (p : Addr) (ds : List Int), ((gro (min b (n - 1)).toNat (n.toNat - 1) 0)[idxN x]? = some ds) → Tr ((p, .lst ((0 :: ds).map V.int)) :: L) (fun H => Q (.ref p) H))) (x0 : (idxOk (cntO n b) x = false) → Tr (L) (fun H => E (.ref C_InvalidNumberError) none H)) : Tr L fun H => sp_nth_outline C_InvalidNumberError [.int n, .int b, x] H Q E :=
  fun H l => ⟨n, b, x, T, L, rfl, l, hn, hb, hx, q, x0⟩

theorem ok_nth_outline {C_InvalidNumberError : Addr} (D : Df K mg "nth_outline" s_nth_outline) (B : Blt mg) (X_InvalidNumberError : ExcC K mg "InvalidNumberError" C_InvalidNumberError) (k_is_integer : Ok P w K mg base CX0 1 "is_integer" ["value"] sp_is_integer) (k_check_sizes : Ok P w K mg base CX0 2 "check_sizes" ["lines", "deepest"] sp_check_sizes) (k_continuations : Ok P w K mg base CX0 1 "continuations" ["lines", "deepest"] sp_continuations) : Ok P w K mg base (L2.CX P w) 3 "nth_outline" ["lines", "deepest", "index"] (sp_nth_outline C_InvalidNumberError) := by
  obtain ⟨f, fd, hm, F⟩ := D
  refine ⟨f, fd, hm, F.kp, F.binds (fun _ _ _ _ _ _ us hl => match us, hl with | [_, _, _], _ => rfl), FunOkG F sc_nth_outline (fun vs H Q E h => ?_) (fun cdv A outer s H vs Q E hr h => ?_), F.lk⟩
  · obtain ⟨_, _, _, _, _, rfl, _⟩ := h; rfl
  obtain ⟨n, b, x, T, L, rfl, l, hn, hb, hx, q, x0⟩ := h
  refine ⟨_, (pss_cons (ps_expr (pe_callG k_check_sizes (hr.mono (by omega)) pas0 (pa_cons (pv 0) (pa_cons (pv 1) pa_nil))))
      (pss_cons (ps_set (i := 3) sc_nth_outline.nd rfl (.inl rfl) (pe_callG k_continuations (hr.mono (by omega)) pas0 (pa_cons (pv 0) (pa_cons (pv 1) pa_nil))))
      (pss_cons (ps_if (PW.pt (pw_or (pt_not (pt_val (pe_callG k_is_integer (hr.mono (by omega)) pas0 (pa_cons (pv 2) pa_nil)))) (pw_or1 (pt_not (pt_chain op_le op_lt pe_int (pv 2) (pe_ix ix_list (pe_ix ix_list (pv 3) (pe_un un_neg pe_int) (fun _ _ => rfl)) pe_int (fun _ _ => rfl))))))) (pss_one (ps_raise rfl (takes_of rfl rfl rfl rfl) (pe_mk X_InvalidNumberError)))
        pss_nil)
      (PSs.nox (pss_cons (ps_set (i := 4) sc_nth_outline.nd rfl (.inl rfl) (pe_lst (pa_cons pe_int pa_nil)))
      (pss_cons (ps_for PassesOwn.never rfl (pi_list (pe_rev2 (pv 3))) (pg_name (i := 5) sc_nth_outline.nd rfl (.inl rfl))
        (pss_cons (ps_set (i := 6) sc_nth_outline.nd rfl (.inl rfl) pe_int)
      (pss_cons (ps_while PassesOwn.never (pt_cmpR op_ge (pv 2) (pe_ix ix_list (pv 5) (pv 6) (fun _ _ => rfl)) (nomark _))
        (pss_cons (ps_aug (i := 2) sc_nth_outline.nd rfl (.inl rfl) (pe_ix ix_list (pv 5) (pv 6) (fun _ _ => rfl)) ip_sub)
      (pss_one (ps_aug (i := 6) sc_nth_outline.nd rfl (.inl rfl) pe_int ip_add))))
      (pss_one (ps_expr (pe_bm PySem.F.plainAttrs_list PySem.F.slot_list_append PySem.F.type_list_append mt_append (pv 4) (pa_cons (pv 6) pa_nil)))))))
      (pss_one (ps_ret (pv 4))))))))), ?_⟩
  rw [show L2.start ["lines", "deepest", "index", "rows", "outline", "row", "depth"] [.int n, .int b, x] = [some (.int n), some (.int b), some x, none, none, none, none] from rfl]
  refine Tr.of ?_ l
  repeat walk_at "hz"
  refine use_check_sizes hn hb ?_
  repeat walk_at "hz"
  refine use_continuations hn hb fun p us N hR => ?_
  have hl := hR.len
  rw [rwsY_len] at hl
  have hR0 := hR
  have e : n.toNat = (n.toNat - 1) + 1 := by omega
  rw [e, rwsY_snoc] at hR0
  obtain ⟨us0, T0, rfl, ul, mT⟩ := hR0.last
  obtain ⟨RT, pT⟩ := Pick.of_mem (List.mem_append_left L mT)
  have rl := rwy_len (min b (n - 1)).toNat (n.toNat - 1)
  have g : atD (rwy (min b (n - 1)).toNat (n.toNat - 1)) 0 = cntO n b := atD_nat (i := 0) (rwy_at (Nat.zero_le _))
  repeat walk_at "hz"
  refine use_is_integer (T := T) (hx.mono fun y hy => by simp [hy]) ?_
  repeat walk_at "hz"
  by_cases ok : idxOk (cntO n b) x = true
  · obtain ⟨i0, rfl, j0, j1⟩ := idxOk_int ok
    have q := q ok
    clear x0
    rw [show isInt (.int i0) = true from rfl]
    repeat walk_at "hz"
    refine t_ixL (by walk_at "pk") (atI_last us0 _) ?_
    repeat walk_at "hz"
    rw [List.dropLast_concat]
    obtain ⟨top, htop⟩ : ∃ top, top = (min b (n - 1)).toNat := ⟨_, rfl⟩
    obtain ⟨m, hm⟩ : ∃ m, m = n.toNat - 1 := ⟨_, rfl⟩
    unfold cntO at j1
    have q : ∀ (p : Addr) (ds : List Int), (gro top m 0)[i0.toNat]? = some ds → Tr ((p, HO.lst ((0 :: ds).map V.int)) :: L) fun H => Q (.ref p) H := by rw [htop, hm]; exact q
    rw [← htop, ← hm] at j1
    rw [← htop, e, ← hm] at hR
    rw [rwsY_len] at ul
    rw [← hm] at ul
    rename_i po pr
    refine t_forK (wk_list (xs := us0.reverse)) (fun t ((acc, i, pd, j5, j6) : (List Int) × Int × Nat × Option V × Option V) => [some (.int n), some (.int b), some (.int i), some (.ref p), some (.ref po), j5, j6]) (fun t ((acc, i, pd, j5, j6) : (List Int) × Int × Nat × Option V × Option V) => (po, .lst ((0 :: acc).map V.int)) :: (pr, .lst us0.reverse) :: (p, .lst (us0 ++ [.ref T0])) :: (N ++ L)) (fun t ((acc, i, pd, j5, j6) : (List Int) × Int × Nat × Option V × Option V) => 0 ≤ i ∧ i < wy top (m - t) pd ∧ acc.length = t ∧ ∀ l, (gro top (m - t) pd)[i.toNat]? = some l → (gro top m 0)[i0.toNat]? = some (acc ++ l)) ⟨([], i0, 0, _, _), ⟨j0, j1, rfl, fun l h => h⟩, rfl, (by walk_at "sb")⟩ (fun _ _ _ => ⟨_, (by walk_at "pk")⟩) ?_ ?_
    · rintro t ⟨acc, i, pd, j5, j6⟩ v L' ht ⟨k0, k1, k2, k3⟩ ⟨hv, rfl⟩
      try dsimp only at k0 k1 k2 k3 ⊢
      simp only [List.nil_append, List.cons_append]
      rw [List.length_reverse] at ht
      obtain ⟨r, hr⟩ : ∃ r, m - t = r + 1 := ⟨m - t - 1, by omega⟩
      rw [hr] at k1 k3
      rw [List.getElem?_reverse ht] at hv
      have hv2 : (us0 ++ [V.ref T0])[us0.length - 1 - t]? = some v := by rw [List.getElem?_append_left (by omega)]; exact hv
      obtain ⟨T2, row, rfl, he, mr⟩ := hR.at hv2
      rw [rwsY_at (by omega)] at he
      obtain rfl := Option.some.inj he
      rw [show us0.length - 1 - t = r by omega] at mr
      obtain ⟨R2, pT2⟩ := Pick.of_mem (List.mem_append_left L mr)
      have rl2 := rwy_len top r
      rw [wy] at k1
      repeat walk_at "hz"
      refine t_whG (fun ((i', e') : Int × Nat) => [some (.int n), some (.int b), some (.int i'), some (.ref p), some (.ref po), some (.ref T2), some (.int (e' : Nat))]) (fun ((i', e') : Int × Nat) => (po, .lst ((0 :: acc).map V.int)) :: (pr, .lst us0.reverse) :: (p, .lst (us0 ++ [.ref T0])) :: (N ++ L)) (fun ((i', e') : Int × Nat) => 0 ≤ i' ∧ e' ≤ min (pd + 1) top ∧ i' = i - sg e' (wy top r)) (fun ((i', e') : Int × Nat) => (top + 1 - e')) ⟨(i, 0), ⟨k0, Nat.zero_le _, by rw [sg_zero0]; omega⟩, rfl, (by walk_at "sb")⟩ ?_
      rintro ⟨i', e'⟩ ⟨w0, w1, w2⟩
      try dsimp only at w0 w1 w2 ⊢
      have ge : atD (rwy top r) (e' : Int) = wy top r e' := atD_nat (rwy_at (by omega))
      have ss := sg_succ e' (wy top r)
      repeat walk_at "hz"
      rw [ge]
      refine t_whB (fun g => ?_) fun g => ?_
      · have lt : e' + 1 ≤ min (pd + 1) top := by
          refine Classical.byContradiction fun c => ?_
          have : e' = min (pd + 1) top := by omega
          rw [← this, ss] at k1
          omega
        repeat walk_at "hz"
        rw [ge]
        refine t_whl (i' - wy top r e', e' + 1) ⟨by omega, lt, by dsimp only; omega⟩ (by (try dsimp only); omega) rfl (by walk_at "sb")
      · have nx : ∀ l, (gro top r e')[i'.toNat]? = some l → (gro top m 0)[i0.toNat]? = some ((acc ++ [(e' : Int)]) ++ l) := fun l hl => by
          obtain ⟨j, h1, h2⟩ := gro_step top w1 (by rw [Int.toNat_of_nonneg w0]; omega) hl
          rw [show j = i.toNat by omega] at h2
          have := k3 _ h2
          rw [this, List.append_assoc]; rfl
        repeat walk_at "hz"
        refine t_pst (acc ++ [(e' : Int)], i', e', _, _) ⟨w0, by rw [show m - (t + 1) = r by omega]; dsimp only; omega, by simp [k2], by rw [show m - (t + 1) = r by omega]; exact nx⟩ rfl (by walk_at "sb")
    · rintro ⟨acc, i, pd, j5, j6⟩ ⟨k0, k1, k2, k3⟩
      try dsimp only at k0 k1 k2 k3 ⊢
      rw [List.length_reverse, ul] at k1 k3
      rw [Nat.sub_self] at k1 k3
      rw [wy] at k1
      have k4 := k3 [] (by rw [gro, show i.toNat = 0 by omega]; rfl)
      rw [List.append_nil] at k4
      repeat walk_at "hz"
      exact (q po acc k4).sub (by walk_at "sb")
  · have x1 := x0 (by simpa using ok)
    cases hx with
    | int i0 =>
      rw [show isInt (.int i0) = true from rfl]
      repeat walk_at "hz"
      refine t_iteD (fun c => ?_) fun c => ?_
      · repeat walk_at "hz"
        refine t_ixL (by walk_at "pk") (atI_last us0 _) ?_
        rw [idxOk] at ok
        repeat walk_at "hz"
        rw [g, show decide (i0 < cntO n b) = false by simpa [c] using ok]
        repeat walk_at "hz"
        exact x1.sub (by walk_at "sb")
      · repeat walk_at "hz"
        exact x1.sub (by walk_at "sb")
    | bl c0 =>
      repeat walk_at "hz"
      exact x1.sub (by walk_at "sb")
    | _ =>
      repeat walk_at "hz"
      exact x1.sub (by walk_at "sb")

theorem rk_sum (top : Nat) : ∀ l : List Int, ((List.range l.length).map fun i => sg (atD l (i : Nat)).toNat (wy top (l.length - 1 - i))).sum = rk top l.length l
  | [] => rfl
  | e :: l => by
    rw [List.length_cons, List.range_succ_eq_map, List.map_cons, List.sum_cons, List.map_map, rk, ← rk_sum top l]
    refine congr (congrArg HAdd.hAdd ?_) (congrArg List.sum (List.map_congr_left fun i _ => ?_))
    · show sg e.toNat _ = _
      rw [show l.length + 1 - 1 - 0 = l.length by omega]
    · show sg (atD (e :: l) ((i + 1 : Nat) : Int)).toNat _ = _
      rw [show l.length + 1 - 1 - (i + 1) = l.length - 1 - i by omega]
      rfl
theorem take_rwy {top r k : Nat} (h : k ≤ top + 1) : ((rwy top r).take k).sum = sg k (wy top r) := by
  unfold rwy sg
  rw [← List.map_take, List.take_range, Nat.min_eq_left h]
def sp_rank_outline  : Sp := fun vs H Q E => ∃ (b : Int) (ls : List Int) (a : Addr) (L : Lg), vs = [.ref a, .int b] ∧ Led H (L) ∧ ((a, HO.lst ((0 :: ls).map V.int)) ∈ L) ∧ (Outline (0 :: ls)) ∧ (0 ≤ b ∧ b ≤ 200) ∧ (∀ x ∈ ls, x ≤ b) ∧ Tr (L) (fun H => Q (.int (rk (min b ls.length).toNat ls.length ls)) H)
theorem use_rank_outline {L : Lg} {Q : VK} {E : XK} {b : Int} {ls : List Int} {a : Addr} (hm : (a, HO.lst ((0 :: ls).map V.int)) ∈ L) (ho : Outline (0 :: ls)) (hb : 0 ≤ b ∧ b ≤ 200) (hd : ∀ x ∈ ls, x ≤ b) (q : Tr (L) (fun H => Q (.int (rk (min b ls.length).toNat ls.length ls)) H)) : Tr L fun H => sp_rank_outline [.ref a, .int b] H Q E :=
  fun H l => ⟨b, ls, a, L, rfl, l, hm, ho, hb, hd, q⟩

theorem ok_rank_outline (D : Df K mg "rank_outline" s_rank_outline) (B : Blt mg) (g_MAX_DEPTH : GV mg "MAX_DEPTH" (.int 200)) (k_is_integer : Ok P w K mg base CX0 1 "is_integer" ["value"] sp_is_integer) (k_check_outline : Ok P w K mg base CX0 3 "check_outline" ["outline"] sp_check_outline) (k_continuations : Ok P w K mg base CX0 1 "continuations" ["lines", "deepest"] sp_continuations) : Ok P w K mg base CX0 4 "rank_outline" ["outline", "deepest"] sp_rank_outline := by
  obtain ⟨f, fd, hm, F⟩ := D
  refine ⟨f, fd, hm, F.kp, F.binds (fun _ _ _ _ _ _ us hl => match us, hl with | [_, _], _ => rfl), FunOkG F sc_rank_outline (fun vs H Q E h => ?_) (fun cdv A outer s H vs Q E hr h => ?_), F.lk⟩
  · obtain ⟨_, _, _, _, rfl, _⟩ := h; rfl
  obtain ⟨b, ls, a, L, rfl, l, hm, ho, hb, hd, q⟩ := h
  refine ⟨_, PSs.nox (pss_cons (ps_expr (pe_callG k_check_outline (hr.mono (by omega)) pas0 (pa_cons (pv 0) pa_nil)))
      (pss_cons (ps_if (PW.pt (pw_or (pt_not (pt_val (pe_callG k_is_integer (hr.mono (by omega)) pas0 (pa_cons (pv 1) pa_nil)))) (pw_or1 (pt_not (pt_chain op_le op_le (pe_callB (cr_max rfl) rfl B.max_ boot_max (pa_cons (pv 0) pa_nil)) (pv 1) (pe_gv g_MAX_DEPTH)))))) pss_never
        pss_nil)
      (pss_cons (ps_set (i := 2) sc_rank_outline.nd rfl (.inl rfl) (pe_callG k_continuations (hr.mono (by omega)) pas0 (pa_cons (pe_callB c_len rfl B.len_ boot_len (pa_cons (pv 0) pa_nil)) (pa_cons (pv 1) pa_nil))))
      (pss_one (ps_ret (pe_callB (cr_sum rfl) rfl B.sum_ boot_sum (pa_cons (pe_lc (own := [("row", 3), ("depth", 4)]) (g := gTup _ 2 (gCons (gName 3) (gCons (gName 4) (gNil)))) (by rfl) sc_rank_outline.nd (pi_zipA (by rfl) B.zip_ (pa_cons (pe_rev2 (pv 2)) (pa_cons (pe_slice sl_list (pv 0) (po_some pe_int) po_none) pa_nil))) (blkOk_by (own := [("row", 3), ("depth", 4)]) (N := ["outline", "deepest", "rows", "row", "depth"]) (sc := defScope s_rank_outline) (by decide +kernel)) (fun _ _ _ _ _ => (pg_tup rfl (pgs_cons (pg_name (i := 3) sc_rank_outline.nd rfl (.inl rfl)) (pgs_cons (pg_name (i := 4) sc_rank_outline.nd rfl (.inl rfl)) pgs_nil)))) (fun _ _ _ _ _ => pts_nil) (fun _ _ _ _ _ => (pe_callB (show CallR _ (.builtin "sum") (rSum K) from (cr_sum rfl)) rfl B.sum_ boot_sum (pa_cons (pe_slice (show SlR _ (rSlL K) from sl_list) (pv 3) po_none (po_some (pv 4))) pa_nil)))) pa_nil))))))), ?_⟩
  rw [show L2.start ["outline", "deepest", "rows", "row", "depth"] [.ref a, .int b] = [some (.ref a), some (.int b), none, none, none] from rfl]
  refine Tr.of ?_ l
  obtain ⟨R_hm, P_hm⟩ := Pick.of_mem hm
  repeat walk_at "hz"
  have hl := ho.len
  rw [List.length_cons] at hl
  obtain ⟨RA, pA⟩ := Pick.of_mem hm
  refine use_check_outline hm ho ?_
  repeat walk_at "hz"
  refine use_is_integer (.int b) ?_
  repeat walk_at "hz"
  refine t_maxL (by walk_at "pk") (by simp) fun mx m1 m2 => ?_
  obtain ⟨b0, b1⟩ := hb
  have mb : mx ≤ b := by
    rcases List.mem_cons.mp m1 with rfl | h
    · exact b0
    · exact hd _ h
  repeat walk_at "hz"
  have en : min b (((ls.length + 1 : Nat) : Int) - 1) = min b ls.length := by omega
  refine use_continuations (by rw [List.length_cons]; omega) ⟨b0, b1⟩ fun p us N hR => ?_
  rw [Int.toNat_natCast, List.length_cons, en, rwsY_snoc] at hR
  obtain ⟨us0, T0, rfl, ul, mT⟩ := hR.last
  rw [rwsY_len] at ul
  repeat walk_at "hz"
  rw [cutI_after (by decide), show (1 : Int).toNat = 1 from rfl, List.drop_one, List.tail_cons]
  obtain ⟨top, htop⟩ : ∃ top, top = (min b ls.length).toNat := ⟨_, rfl⟩
  rw [← htop] at hR q
  repeat walk_at "hz"
  rw [List.dropLast_concat]
  refine t_lcMap (wk_zip (xs := us0.reverse) (ys := ls.map V.int)) (by rfl) (((List.range ls.length).map fun i => sg (atD ls (i : Nat)).toNat (wy top (ls.length - 1 - i))).map V.int) (by simp [ul]) (fun x => ⟨⟨_, (by walk_at "pk")⟩, ⟨_, (by walk_at "pk")⟩⟩) ?_ ?_
  · rintro D i v L' hi ⟨T, xv, yv, rfl, hxv, hyv, rfl⟩
    rw [List.length_reverse, List.length_map, ul, Nat.min_self] at hi
    rw [List.getElem?_reverse (by omega)] at hxv
    have hv2 : (us0 ++ [V.ref T0])[us0.length - 1 - i]? = some xv := by rw [List.getElem?_append_left (by omega)]; exact hxv
    obtain ⟨T2, row, rfl, he, mr⟩ := hR.at hv2
    rw [← rwsY_snoc, rwsY_at (by omega)] at he
    obtain rfl := Option.some.inj he
    rw [ul] at mr
    obtain ⟨R2, pT2⟩ := Pick.of_mem (List.mem_append_left L mr)
    obtain ⟨e, h4, rfl⟩ := map_get hyv
    have he := ho.bound (i := i + 1) (d := e) (by simpa using h4)
    have hle : e ≤ b := hd e (List.mem_of_getElem? h4)
    have hat : atD ls (i : Nat) = e := atD_nat h4
    repeat walk_at "hz"
    rw [cutI_upto (by omega)]
    refine t_sum (by walk_at "pk") ?_
    rw [take_rwy (by omega)]
    exact t_lcMp (by walk_at "pk") (get_map _ (by rw [List.getElem?_map, List.getElem?_range hi, ← hat]; rfl)) (by rw [sizeLine_eq, List.length_map, List.length_map, List.length_range]; omega) (by walk_at "sb")
  · intro D
    repeat walk_at "hz"
    refine t_sum (by walk_at "pk") ?_
    rw [rk_sum]
    exact q.sub (by walk_at "sb")

/-! ### shortest readings: how many, and which -/
theorem sg_cat (a b : Nat) (f : Nat → Int) : sg (a + b) f = sg a f + sg b fun k => f (a + k) := by
  induction b with
  | zero => rw [sg_zero0, Nat.add_zero]; omega
  | succ b ih => rw [← Nat.add_assoc, sg_succ, ih, sg_succ]; omega
/-- the stop of a line -/
def spN (ns : List Int) (i : Nat) : Nat := (atD (stopsI ns) (i : Nat)).toNat
/-- ways to go on with so many more views behind a view at this position -/
def wf (ns : List Int) (h : Nat) : Nat → Nat → Int
  | 0, t => if ns.length ≤ t + h then 1 else 0
  | j + 1, t => if t + h < ns.length then sg (spN ns (t + h) - t) fun k => wf ns h j (t + 1 + k) else 0
theorem wf_pos (ns : List Int) (h : Nat) : ∀ j t, 0 ≤ wf ns h j t
  | 0, t => by rw [wf]; by_cases c : ns.length ≤ t + h <;> simp [c]
  | j + 1, t => by
    rw [wf]
    by_cases c : t + h < ns.length
    · rw [if_pos c]; exact sg_pos fun i _ => wf_pos ns h j _
    · rw [if_neg c]; omega
/-- these views, in ascending order -/
def gr (ns : List Int) (h : Nat) : Nat → Nat → List (List Int)
  | 0, t => if ns.length ≤ t + h then [[]] else []
  | j + 1, t => if t + h < ns.length then (List.range (spN ns (t + h) - t)).flatMap fun k => (gr ns h j (t + 1 + k)).map fun l => ((t + 1 + k : Nat) : Int) :: l else []
theorem gr_len (ns : List Int) (h : Nat) : ∀ j t, ((gr ns h j t).length : Int) = wf ns h j t
  | 0, t => by rw [gr, wf]; by_cases c : ns.length ≤ t + h <;> simp [c]
  | j + 1, t => by
    rw [gr, wf]
    by_cases c : t + h < ns.length
    · rw [if_pos c, if_pos c, len_range_flat]
      exact sg_congr fun k _ => by rw [List.length_map, gr_len ns h j]
    · rw [if_neg c, if_neg c]; rfl
theorem gr_step {ns : List Int} {h j t s i : Nat} (c : t + h < ns.length) (h1 : t < s) (h2 : s ≤ spN ns (t + h)) (hi : (i : Int) < wf ns h j s) {l : List Int} (hl : (gr ns h j s)[i]? = some l) :
    ∃ m : Nat, (m : Int) = (sg (s - t - 1) fun k => wf ns h j (t + 1 + k)) + i ∧ (gr ns h (j + 1) t)[m]? = some ((s : Int) :: l) := by
  have es : t + 1 + (s - t - 1) = s := by omega
  obtain ⟨m, e1, e2⟩ := flat_at (fun k => (gr ns h j (t + 1 + k)).map fun l => ((t + 1 + k : Nat) : Int) :: l) (spN ns (t + h) - t) (s - t - 1) i (by omega) (by rw [List.length_map, es]; have := gr_len ns h j s; omega)
  refine ⟨m, ?_, ?_⟩
  · rw [e1]
    congr 1
    exact sg_congr fun k _ => by rw [List.length_map, gr_len]
  · rw [gr, if_pos c, e2, List.getElem?_map, es, hl]; rfl
theorem gr_in {ns : List Int} {h j t m : Nat} {l : List Int} (hl : (gr ns h (j + 1) t)[m]? = some l) :
    ∃ (s i : Nat) (l' : List Int), l = (s : Int) :: l' ∧ t + h < ns.length ∧ t < s ∧ s ≤ spN ns (t + h) ∧ (m : Int) = (sg (s - t - 1) fun k => wf ns h j (t + 1 + k)) + i ∧ (gr ns h j s)[i]? = some l' := by
  rw [gr] at hl
  by_cases c : t + h < ns.length
  · rw [if_pos c] at hl
    obtain ⟨e, i, he, hi, hm, hx⟩ := flat_in _ _ m l hl
    rw [List.getElem?_map] at hx
    cases hq : (gr ns h j (t + 1 + e))[i]? with
    | none => rw [hq] at hx; cases hx
    | some l' =>
      rw [hq] at hx
      obtain rfl := Option.some.inj hx
      refine ⟨t + 1 + e, i, l', rfl, c, by omega, by omega, ?_, hq⟩
      rw [hm, show t + 1 + e - t - 1 = e by omega]
      congr 1
      exact sg_congr fun k _ => by rw [List.length_map, gr_len]
  · rw [if_neg c] at hl; simp at hl
theorem gr_end {ns : List Int} {h t m : Nat} {l : List Int} (hl : (gr ns h 0 t)[m]? = some l) : l = [] ∧ m = 0 ∧ ns.length ≤ t + h := by
  rw [gr] at hl
  by_cases c : ns.length ≤ t + h
  · rw [if_pos c] at hl
    cases m with
    | zero => exact ⟨(Option.some.inj hl).symm, rfl, c⟩
    | succ m => simp at hl
  · rw [if_neg c] at hl; simp at hl
theorem gr_llen (ns : List Int) (h : Nat) : ∀ (j t m : Nat) (l : List Int), (gr ns h j t)[m]? = some l → l.length = j
  | 0, t, m, l, hl => by rw [(gr_end hl).1]; rfl
  | j + 1, t, m, l, hl => by
    obtain ⟨s, i, l', rfl, _, _, _, _, hq⟩ := gr_in hl
    rw [List.length_cons, gr_llen ns h j s i l' hq]
/-- the least number of further views behind the first one -/
def jF (ns : List Int) (h : Nat) : Nat := ((List.range (ns.length + 1)).find? fun j => decide (wf ns h j 0 ≠ 0)).getD 0
theorem jF_eq {ns : List Int} {h j : Nat} (hj : j ≤ ns.length) (h0 : wf ns h j 0 ≠ 0) (h1 : ∀ i, i < j → wf ns h i 0 = 0) : jF ns h = j := by
  unfold jF
  rw [List.find?_range_eq_some.mpr ⟨by simpa using h0, List.mem_range.mpr (by omega), fun i hi => by simp [h1 i hi]⟩]
  rfl
theorem spN_ge {ns : List Int} {i : Nat} (hi : i < ns.length) : ((spN ns i : Nat) : Int) = max 0 ((i : Int) - atD ns i) := by
  have e := stopsFrom_get 0 ns i _ (List.getElem?_eq_getElem hi)
  have a : atD ns (i : Nat) = ns[i] := atD_nat (List.getElem?_eq_getElem hi)
  have b : atD (stopsI ns) (i : Nat) = 0 + i - ns[i] := atD_nat e
  unfold spN
  rw [b, a]
  omega
/-- there is a way with so many views -/
theorem wf_way {ns : List Int} {h : Nat} (hd : ∀ i : Nat, i < ns.length → atD ns i < h) : ∀ j, j ≤ ns.length - h → 1 ≤ wf ns h j (ns.length - h - j)
  | 0, _ => by rw [wf, if_pos (by omega)]; decide
  | j + 1, hj => by
    have ih := wf_way hd j (by omega)
    obtain ⟨t, ht⟩ : ∃ t, t = ns.length - h - (j + 1) := ⟨_, rfl⟩
    have e : ns.length - h - j = t + 1 := by omega
    rw [← ht]
    rw [e] at ih
    have c : t + h < ns.length := by omega
    have hs := spN_ge c
    have hd := hd (t + h) c
    rw [wf, if_pos c, show spN ns (t + h) - t = (spN ns (t + h) - t - 1) + 1 by omega, sg_front]
    have := sg_pos (n := spN ns (t + h) - t - 1) (f := fun i => wf ns h j (t + 1 + (i + 1))) fun i _ => wf_pos ns h j _
    rw [Nat.add_zero]
    omega
/-- a row, and the sums of its beginnings -/
def rL (ns : List Int) (h top j : Nat) : List Int := (List.range (top + 1)).map (wf ns h j)
def rS (ns : List Int) (h top : Nat) (J : Nat) : List (List Int) := (List.range J).map (rL ns h top)
theorem rL_len (ns : List Int) (h top j : Nat) : (rL ns h top j).length = top + 1 := by unfold rL; rw [List.length_map, List.length_range]
theorem rL_at {ns : List Int} {h top j t : Nat} (ht : t ≤ top) : (rL ns h top j)[t]? = some (wf ns h j t) := by
  unfold rL
  rw [List.getElem?_map, List.getElem?_range (by omega)]; rfl
theorem rS_snoc (ns : List Int) (h top J : Nat) : rS ns h top (J + 1) = rS ns h top J ++ [rL ns h top J] := by unfold rS; rw [List.range_succ, List.map_append]; rfl
theorem rS_len (ns : List Int) (h top J : Nat) : (rS ns h top J).length = J := by unfold rS; rw [List.length_map, List.length_range]
theorem rS_at {ns : List Int} {h top J r : Nat} (hr : r < J) : (rS ns h top J)[r]? = some (rL ns h top r) := by
  unfold rS
  rw [List.getElem?_map, List.getElem?_range hr]; rfl
def suL (f : Nat → Int) (k : Nat) : List Int := (List.range k).map fun i => sg i f
theorem suL_len (f : Nat → Int) (k : Nat) : (suL f k).length = k := by unfold suL; rw [List.length_map, List.length_range]
theorem suL_snoc (f : Nat → Int) (k : Nat) : suL f (k + 1) = suL f k ++ [sg k f] := by unfold suL; rw [List.range_succ, List.map_append]; rfl
theorem suL_at {f : Nat → Int} {k i : Nat} (h : i < k) : (suL f k)[i]? = some (sg i f) := by
  unfold suL
  rw [List.getElem?_map, List.getElem?_range h]; rfl
theorem wf_sub {ns : List Int} {h j t : Nat} (c : t + h < ns.length) (e : t ≤ spN ns (t + h)) : sg (spN ns (t + h) + 1) (wf ns h j) - sg (t + 1) (wf ns h j) = wf ns h (j + 1) t := by
  rw [wf, if_pos c, show spN ns (t + h) + 1 = (t + 1) + (spN ns (t + h) - t) by omega, sg_cat]
  omega
theorem sIx_pos {n d : Nat} {i : Int} (h0 : 0 ≤ i) (h1 : i ≤ n) : HT.sIx n d (some i) = i.toNat := by
  show (if i < 0 then _ else min i.toNat n) = i.toNat
  rw [if_neg (by omega)]; omega
theorem cut_row {ns : List Int} {h top j t s : Nat} (h1 : t < s) (h2 : s ≤ top + 1) : (cutI (rL ns h top j) (some ((t : Int) + 1)) (some (s : Int))).sum = sg (s - t - 1) fun k => wf ns h j (t + 1 + k) := by
  unfold cutI
  rw [sIx_pos (by omega) (by rw [rL_len]; omega), sIx_pos (by omega) (by rw [rL_len]; omega)]
  unfold rL sg
  refine congrArg List.sum (List.ext_getElem? fun i => ?_)
  rw [List.getElem?_take, List.getElem?_drop, List.getElem?_map, List.getElem?_map, show ((t : Int) + 1).toNat = t + 1 by omega, Int.toNat_natCast]
  by_cases c : i < s - (t + 1)
  · rw [if_pos c, List.getElem?_range (by omega), List.getElem?_range (by omega)]; rfl
  · rw [if_neg c, List.getElem?_eq_none (l := List.range (s - t - 1)) (by rw [List.length_range]; omega)]; rfl

def sp_check_height  : Sp := fun vs H Q E => ∃ (h : Int) (L : Lg), vs = [.int h] ∧ Led H (L) ∧ (1 ≤ h) ∧ (h ≤ 400) ∧ Tr (L) (fun H => Q (.non) H)
theorem use_check_height {L : Lg} {Q : VK} {E : XK} {h : Int} (h0 : 1 ≤ h) (h1 : h ≤ 400) (q : Tr (L) (fun H => Q (.non) H)) : Tr L fun H => sp_check_height [.int h] H Q E :=
  fun H l => ⟨h, L, rfl, l, h0, h1, q⟩

theorem ok_check_height (D : Df K mg "check_height" s_check_height) (B : Blt mg) (g_MOST_ROWS : GV mg "MOST_ROWS" (.int 400)) (k_is_integer : Ok P w K mg base CX0 1 "is_integer" ["value"] sp_is_integer) : Ok P w K mg base CX0 2 "check_height" ["height"] sp_check_height := by
  obtain ⟨f, fd, hm, F⟩ := D
  refine ⟨f, fd, hm, F.kp, F.binds (fun _ _ _ _ _ _ us hl => match us, hl with | [_], _ => rfl), FunOkG F sc_check_height (fun vs H Q E h => ?_) (fun cdv A outer s H vs Q E hr h => ?_), F.lk⟩
  · obtain ⟨_, _, rfl, _⟩ := h; rfl
  obtain ⟨h, L, rfl, l, h0, h1, q⟩ := h
  refine ⟨_, PSs.nox (pss_one (ps_if (PW.pt (pw_or (pt_not (pt_val (pe_callG k_is_integer (hr.mono (by omega)) pas0 (pa_cons (pv 0) pa_nil)))) (pw_or1 (pt_not (pt_chain op_le op_le pe_int (pv 0) (pe_gv g_MOST_ROWS)))))) pss_never
        pss_nil)), ?_⟩
  rw [show L2.start ["height"] [.int h] = [some (.int h)] from rfl]
  refine Tr.of ?_ l
  repeat walk_at "hz"
  refine use_is_integer (.int h) ?_
  repeat walk_at "hz"
  exact q
def sp_check_not_too_deep  : Sp := fun vs H Q E => ∃ (a : Addr) (ns : List Int) (h i : Int) (L : Lg), vs = [.ref a, .int h, .int i] ∧ Led H (L) ∧ ((a, .lst (ns.map V.int)) ∈ L) ∧ (∀ k, i ≤ k → k < ns.length → atD ns k < h) ∧ (0 ≤ i) ∧ (i ≤ ns.length) ∧ (ns.length ≤ 1000) ∧ Tr (L) (fun H => Q (.non) H)
theorem use_check_not_too_deep {L : Lg} {Q : VK} {E : XK} {a : Addr} {ns : List Int} {h i : Int} (hm : (a, .lst (ns.map V.int)) ∈ L) (hd : ∀ k, i ≤ k → k < ns.length → atD ns k < h) (h0 : 0 ≤ i) (h1 : i ≤ ns.length) (hz : ns.length ≤ 1000) (q : Tr (L) (fun H => Q (.non) H)) : Tr L fun H => sp_check_not_too_deep [.ref a, .int h, .int i] H Q E :=
  fun H l => ⟨a, ns, h, i, L, rfl, l, hm, hd, h0, h1, hz, q⟩

theorem ok_check_not_too_deep (D : Df K mg "check_not_too_deep" s_check_not_too_deep) (B : Blt mg) : Ok P w K mg base CX0 1 "check_not_too_deep" ["outline", "height", "line"] sp_check_not_too_deep := by
  obtain ⟨f, fd, hm, F⟩ := D
  refine ⟨f, fd, hm, F.kp, F.binds (fun _ _ _ _ _ _ us hl => match us, hl with | [_, _, _], _ => rfl), FunOkG F sc_check_not_too_deep (fun vs H Q E h => ?_) (fun cdv A outer s H vs Q E hr h => ?_), F.lk⟩
  · obtain ⟨_, _, _, _, _, rfl, _⟩ := h; rfl
  obtain ⟨a, ns, h, i, L, rfl, l, hm, hd, h0, h1, hz, q⟩ := h
  refine ⟨_, PSs.nox (pss_one (ps_for PassesOwn.never rfl (pi_range2 rfl B.range_ (pa_cons (pv 2) (pa_cons (pe_callB c_len rfl B.len_ boot_len (pa_cons (pv 0) pa_nil)) pa_nil))) (pg_name (i := 3) sc_check_not_too_deep.nd rfl (.inl rfl))
        (pss_one (ps_if (pt_cmpR op_ge (pe_ix ix_list (pv 0) (pv 3) (fun _ _ => rfl)) (pv 1) (nomark _)) pss_never
        pss_nil)))), ?_⟩
  rw [show L2.start ["outline", "height", "line", "number"] [.ref a, .int h, .int i] = [some (.ref a), some (.int h), some (.int i), none] from rfl]
  refine Tr.of ?_ l
  obtain ⟨R_hm, P_hm⟩ := Pick.of_mem hm
  repeat walk_at "hz"
  obtain ⟨R, hp⟩ := Pick.of_mem hm
  repeat walk_at "hz"
  refine t_forK wk_range (fun t (j3 : Option V) => [some (.ref a), some (.int h), some (.int i), j3]) (fun t (j3 : Option V) => L) (fun t (j3 : Option V) => True) ⟨_, trivial, rfl, (by walk_at "sb")⟩ (fun _ _ _ => trivial) ?_ ?_
  · rintro t j3 v L' ht - ⟨rfl, rfl⟩
    try dsimp only at  ⊢
    simp only [List.nil_append, List.cons_append]
    have hk := hd (i + (t : Nat)) (by omega) (by omega)
    repeat walk_at "hz"
    refine t_pst (_) trivial rfl (by walk_at "sb")
  · rintro j3 -
    try dsimp only at  ⊢
    repeat walk_at "hz"
    exact q
def sp_check_arguments  : Sp := fun vs H Q E => ∃ (a : Addr) (ns : List Int) (h : Int) (L : Lg), vs = [.ref a, .int h] ∧ Led H (L) ∧ ((a, .lst (ns.map V.int)) ∈ L) ∧ (Outline ns) ∧ (1 ≤ h) ∧ (h ≤ 400) ∧ (∀ k : Int, 0 ≤ k → k < ns.length → atD ns k < h) ∧ Tr (L) (fun H => Q (.non) H)
theorem use_check_arguments {L : Lg} {Q : VK} {E : XK} {a : Addr} {ns : List Int} {h : Int} (hm : (a, .lst (ns.map V.int)) ∈ L) (ho : Outline ns) (h0 : 1 ≤ h) (h1 : h ≤ 400) (hd : ∀ k : Int, 0 ≤ k → k < ns.length → atD ns k < h) (q : Tr (L) (fun H => Q (.non) H)) : Tr L fun H => sp_check_arguments [.ref a, .int h] H Q E :=
  fun H l => ⟨a, ns, h, L, rfl, l, hm, ho, h0, h1, hd, q⟩

theorem ok_check_arguments (D : Df K mg "check_arguments" s_check_arguments) (B : Blt mg) (k_check_outline : Ok P w K mg base CX0 3 "check_outline" ["outline"] sp_check_outline) (k_check_height : Ok P w K mg base CX0 2 "check_height" ["height"] sp_check_height) (k_check_not_too_deep : Ok P w K mg base CX0 1 "check_not_too_deep" ["outline", "height", "line"] sp_check_not_too_deep) : Ok P w K mg base CX0 4 "check_arguments" ["outline", "height"] sp_check_arguments := by
  obtain ⟨f, fd, hm, F⟩ := D
  refine ⟨f, fd, hm, F.kp, F.binds (fun _ _ _ _ _ _ us hl => match us, hl with | [_, _], _ => rfl), FunOkG F sc_check_arguments (fun vs H Q E h => ?_) (fun cdv A outer s H vs Q E hr h => ?_), F.lk⟩
  · obtain ⟨_, _, _, _, rfl, _⟩ := h; rfl
  obtain ⟨a, ns, h, L, rfl, l, hm, ho, h0, h1, hd, q⟩ := h
  refine ⟨_, PSs.nox (pss_cons (ps_expr (pe_callG k_check_outline (hr.mono (by omega)) pas0 (pa_cons (pv 0) pa_nil)))
      (pss_cons (ps_expr (pe_callG k_check_height (hr.mono (by omega)) pas0 (pa_cons (pv 1) pa_nil)))
      (pss_one (ps_expr (pe_callG k_check_not_too_deep (hr.mono (by omega)) pas0 (pa_cons (pv 0) (pa_cons (pv 1) (pa_cons pe_int pa_nil)))))))), ?_⟩
  rw [show L2.start ["outline", "height"] [.ref a, .int h] = [some (.ref a), some (.int h)] from rfl]
  refine Tr.of ?_ l
  obtain ⟨R_hm, P_hm⟩ := Pick.of_mem hm
  repeat walk_at "hz"
  have hl := ho.len
  refine use_check_outline hm ho ?_
  repeat walk_at "hz"
  refine use_check_height h0 h1 ?_
  repeat walk_at "hz"
  refine use_check_not_too_deep hm hd (by omega) (by omega) (by omega) ?_
  repeat walk_at "hz"
  exact q
theorem sp_mono {ns : List Int} (ho : Outline ns) {i j : Nat} (h : i ≤ j) (hj : j < ns.length) : (i : Int) - atD ns i ≤ (j : Int) - atD ns j := by
  induction j with
  | zero => rw [show i = 0 by omega]; omega
  | succ j ih =>
    by_cases c : i = j + 1
    · rw [c]; omega
    · have := ih (by omega) (by omega)
      have u := ho.stp.up j (by omega)
      rw [Int.natCast_succ] at *
      omega
def sp_ways_to_finish  : Sp := fun vs H Q E => ∃ (a : Addr) (ns : List Int) (h : Int) (L : Lg), vs = [.ref a, .int h] ∧ Led H (L) ∧ ((a, .lst (ns.map V.int)) ∈ L) ∧ (Outline ns) ∧ (1 ≤ h) ∧ (h ≤ 400) ∧ (∀ k : Int, 0 ≤ k → k < ns.length → atD ns k < h) ∧ ∀ (p : Addr) (us : List V) (N : Lg), (Rws N us (rS ns h.toNat (spN ns (ns.length - 1)) (jF ns h.toNat + 1))) → (1 ≤ wf ns h.toNat (jF ns h.toNat) 0) → (jF ns h.toNat ≤ ns.length) → Tr ((p, .lst us) :: (N ++ L)) (fun H => Q (.ref p) H)
theorem use_ways_to_finish {L : Lg} {Q : VK} {E : XK} {a : Addr} {ns : List Int} {h : Int} (hm : (a, .lst (ns.map V.int)) ∈ L) (ho : Outline ns) (h0 : 1 ≤ h) (h1 : h ≤ 400) (hd : ∀ k : Int, 0 ≤ k → k < ns.length → atD ns k < h) (q : ∀ (p : Addr) (us : List V) (N : Lg), (Rws N us (rS ns h.toNat (spN ns (ns.length - 1)) (jF ns h.toNat + 1))) → (1 ≤ wf ns h.toNat (jF ns h.toNat) 0) → (jF ns h.toNat ≤ ns.length) → Tr ((p, .lst us) :: (N ++ L)) (fun H => Q (.ref p) H)) : Tr L fun H => sp_ways_to_finish [.ref a, .int h] H Q E :=
  fun H l => ⟨a, ns, h, L, rfl, l, hm, ho, h0, h1, hd, q⟩

theorem ok_ways_to_finish (D : Df K mg "ways_to_finish" s_ways_to_finish) (B : Blt mg) (k_stops_of : Ok P w K mg base CX0 1 "stops_of" ["outline"] sp_stops_of) : Ok P w K mg base CX0 2 "ways_to_finish" ["outline", "height"] sp_ways_to_finish := by
  obtain ⟨f, fd, hm, F⟩ := D
  refine ⟨f, fd, hm, F.kp, F.binds (fun _ _ _ _ _ _ us hl => match us, hl with | [_, _], _ => rfl), FunOkG F sc_ways_to_finish (fun vs H Q E h => ?_) (fun cdv A outer s H vs Q E hr h => ?_), F.lk⟩
  · obtain ⟨_, _, _, _, rfl, _⟩ := h; rfl
  obtain ⟨a, ns, h, L, rfl, l, hm, ho, h0, h1, hd, q⟩ := h
  refine ⟨_, PSs.nox (pss_cons (ps_set (i := 2) sc_ways_to_finish.nd rfl (.inr rfl) (pe_callB c_len rfl B.len_ boot_len (pa_cons (pv 0) pa_nil)))
      (pss_cons (ps_set (i := 3) sc_ways_to_finish.nd rfl (.inr rfl) (pe_callG k_stops_of (hr.mono (by omega)) pas0 (pa_cons (pv 0) pa_nil)))
      (pss_cons (ps_set (i := 4) sc_ways_to_finish.nd rfl (.inl rfl) (pe_lst (pa_cons (pe_lc (own := [("scroll", 5)]) (g := gName 5) (by rfl) sc_ways_to_finish.nd (pi_range1 rfl B.range_ (pa_cons (pe_op op_add (pe_ix ix_list (pv 3) (pe_un un_neg pe_int) (fun _ _ => rfl)) pe_int) pa_nil)) (blkOk_by (own := [("scroll", 5)]) (N := ["outline", "height", "size", "stops", "rows", "scroll", "sums", "ways", "row"]) (sc := defScope s_ways_to_finish) (by decide +kernel)) (fun _ _ _ _ _ => (pg_name (i := 5) sc_ways_to_finish.nd rfl (.inl rfl))) (fun _ _ _ _ _ => pts_nil) (fun _ _ _ _ _ => (pe_callTy c_int rfl B.int_ boot_int (pa_cons (pe_cmpR op_ge (pe_op op_add (pv 5) (pv 1)) (pv 2) (nomark _)) pa_nil)))) pa_nil)))
      (pss_cons (ps_while PassesOwn.never (pt_cmpR op_eq (pe_ix ix_list (pe_ix ix_list (pv 4) (pe_un un_neg pe_int) (fun _ _ => rfl)) pe_int (fun _ _ => rfl)) pe_int (nomark _))
        (pss_cons (ps_set (i := 6) sc_ways_to_finish.nd rfl (.inr rfl) (pe_lst (pa_cons pe_int pa_nil)))
      (pss_cons (ps_for PassesOwn.never rfl (pi_list (pe_ix ix_list (pv 4) (pe_un un_neg pe_int) (fun _ _ => rfl))) (pg_name (i := 7) sc_ways_to_finish.nd rfl (.inl rfl))
        (pss_one (ps_expr (pe_bm PySem.F.plainAttrs_list PySem.F.slot_list_append PySem.F.type_list_append mt_append (pv 6) (pa_cons (pe_op op_add (pe_ix ix_list (pv 6) (pe_un un_neg pe_int) (fun _ _ => rfl)) (pv 7)) pa_nil)))))
      (pss_cons (ps_setLc (i := 8) (own := [("scroll", 5)]) (g := gName 5) (by rfl) sc_ways_to_finish.nd rfl rfl (sw_true rfl rfl rfl (by decide +kernel)) (pi_range1 rfl B.range_ (pa_cons (pe_op op_add (pe_ix ix_list (pv 3) (pe_un un_neg pe_int) (fun _ _ => rfl)) pe_int) pa_nil)) (blkOk_by (own := [("scroll", 5)]) (N := ["outline", "height", "size", "stops", "rows", "scroll", "sums", "ways", "row"]) (sc := defScope s_ways_to_finish) (by decide +kernel)) (fun _ _ _ _ _ => (pg_name (i := 5) sc_ways_to_finish.nd rfl (.inl rfl))) (fun _ _ _ _ _ => pts_nil) (fun _ _ _ _ _ => (pe_ifExp (pt_cmpR op_lt (pe_op op_add (pv 5) (pv 1)) (pv 2) (nomark _)) (pe_op op_sub (pe_ix (show IxR _ (rIxL K) from ix_list) (pv 6) (pe_op op_add (pe_ix (show IxR _ (rIxL K) from ix_list) (pv 3) (pe_op op_add (pv 5) (pv 1)) (fun _ _ => rfl)) pe_int) (fun _ _ => rfl)) (pe_ix (show IxR _ (rIxL K) from ix_list) (pv 6) (pe_op op_add (pv 5) pe_int) (fun _ _ => rfl))) pe_int)))
      (pss_one (ps_expr (pe_bm PySem.F.plainAttrs_list PySem.F.slot_list_append PySem.F.type_list_append mt_append (pv 4) (pa_cons (pv 8) pa_nil))))))))
      (pss_one (ps_ret (pv 4))))))), ?_⟩
  rw [show L2.start ["outline", "height", "size", "stops", "rows", "scroll", "sums", "ways", "row"] [.ref a, .int h] = [some (.ref a), some (.int h), none, none, none, none, none, none, none] from rfl]
  refine Tr.of ?_ l
  obtain ⟨R_hm, P_hm⟩ := Pick.of_mem hm
  repeat walk_at "hz"
  have hl := ho.len
  obtain ⟨R, hp⟩ := Pick.of_mem hm
  refine use_stops_of hm (by omega) fun ps => ?_
  obtain ⟨H, rfl⟩ : ∃ H : Nat, h = (H : Int) := ⟨h.toNat, by omega⟩
  rw [Int.toNat_natCast] at q
  obtain ⟨top, htop⟩ : ∃ top, top = spN ns (ns.length - 1) := ⟨_, rfl⟩
  rw [← htop] at q
  have hd' : ∀ i : Nat, i < ns.length → atD ns i < H := fun i hi => hd i (by omega) (by omega)
  have tl : ((top : Nat) : Int) = (ns.length : Int) - 1 - atD ns ((ns.length : Int) - 1) := by
    have a := spN_ge (ns := ns) (i := ns.length - 1) (by omega)
    have b := ho.at (i := ((ns.length - 1 : Nat) : Int)) (by omega) (by omega)
    rw [htop, a, show ((ns.length : Int) - 1) = ((ns.length - 1 : Nat) : Int) by omega]
    omega
  have d0 := (ho.at (i := (ns.length : Int) - 1) (by omega) (by omega)).1
  have dl := hd ((ns.length : Int) - 1) (by omega) (by omega)
  have sl : (stopsI ns).length = ns.length := stopsFrom_len 0 ns
  have el : lastD (-1) (stopsI ns) = top := by
    have g := last_get (ns := stopsI ns) (-1) (by omega)
    rw [List.length_map, List.getElem?_map] at g
    have a := stopsFrom_get 0 ns (ns.length - 1) _ (List.getElem?_eq_getElem (by omega))
    rw [sl, show stopsI ns = stopsFrom 0 ns from rfl, a] at g
    have e : (0 : Int) + ((ns.length - 1 : Nat) : Int) - ns[ns.length - 1] = lastD (-1) (stopsFrom 0 ns) := by
      have := Option.some.inj g
      injection this
    rw [show stopsI ns = stopsFrom 0 ns from rfl, ← e, tl, show ((ns.length : Int) - 1) = ((ns.length - 1 : Nat) : Int) by omega, atD_nat (List.getElem?_eq_getElem (show ns.length - 1 < ns.length by omega))]
    omega
  repeat walk_at "hz"
  refine t_ixL (by walk_at "pk") (at_lastD (-1) (by omega)) ?_
  rw [el]
  repeat walk_at "hz"
  refine t_lcMap wk_range (by rfl) ((rL ns H top 0).map V.int) (by rw [List.length_map, rL_len]; omega) (fun _ => trivial) ?_ ?_
  · rintro D i v L' hi ⟨rfl, rfl⟩
    rw [List.nil_append, Int.zero_add]
    repeat walk_at "hz"
    have e : (if decide ((ns.length : Int) ≤ (i : Int) + (H : Int)) = true then (1 : Int) else 0) = wf ns H 0 i := by
      rw [wf]
      by_cases c : ns.length ≤ i + H
      · rw [if_pos c, if_pos (by simp; omega)]
      · rw [if_neg c, if_neg (by simp; omega)]
    rw [e]
    exact t_lcMp (by walk_at "pk") (get_map _ (rL_at (by omega))) (by rw [sizeLine_eq, List.length_map, rL_len]; omega) (by walk_at "sb")
  intro D
  repeat walk_at "hz"
  rename_i p0
  have spb : ∀ i : Nat, i < ns.length → ((spN ns i : Nat) : Int) = (i : Int) - atD ns i ∧ spN ns i ≤ top := fun i hi => by
    have a := spN_ge hi
    have b := ho.at (i := (i : Int)) (by omega) (by omega)
    have m := sp_mono ho (show i ≤ ns.length - 1 by omega) (by omega)
    have c := ho.at (i := ((ns.length - 1 : Nat) : Int)) (by omega) (by omega)
    have d := spN_ge (ns := ns) (i := ns.length - 1) (by omega)
    rw [← htop] at d
    omega
  refine t_whG (fun ((us, T, N, j, u15, u16, u17, u18) : (List V) × Addr × Lg × Nat × Option V × Option V × Option V × Option V) => [some (.ref a), some (.int H), some (.int ns.length), some (.ref ps), some (.ref p0), u15, u16, u17, u18]) (fun ((us, T, N, j, u15, u16, u17, u18) : (List V) × Addr × Lg × Nat × Option V × Option V × Option V × Option V) => (p0, .lst (us ++ [.ref T])) :: (N ++ ((ps, .lst ((stopsI ns).map V.int)) :: L))) (fun ((us, T, N, j, u15, u16, u17, u18) : (List V) × Addr × Lg × Nat × Option V × Option V × Option V × Option V) => Rws N (us ++ [.ref T]) (rS ns H top (j + 1)) ∧ (T, HO.lst ((rL ns H top j).map V.int)) ∈ N ∧ j ≤ ns.length - H ∧ ∀ i, i < j → wf ns H i 0 = 0) (fun ((us, T, N, j, u15, u16, u17, u18) : (List V) × Addr × Lg × Nat × Option V × Option V × Option V × Option V) => (ns.length + 1 - j)) ⟨([], D, [(D, .lst ((rL ns H top 0).map V.int))], 0, _, _, _, _), ⟨Rws.one (.head _), .head _, by omega, fun i hi => by omega⟩, rfl, (by walk_at "sb")⟩ ?_
  rintro ⟨us, T, N, j, u15, u16, u17, u18⟩ ⟨hR, mT, w0, w1⟩
  try dsimp only at hR mT w0 w1 ⊢
  have hl2 := hR.len
  rw [rS_len] at hl2
  have rl := rL_len ns H top j
  obtain ⟨RT, pT⟩ := Pick.of_mem (List.mem_append_left ((ps, HO.lst ((stopsI ns).map V.int)) :: L) mT)
  repeat walk_at "hz"
  refine t_ixL (by walk_at "pk") (atI_last us _) ?_
  have g : atD (rL ns H top j) 0 = wf ns H j 0 := atD_nat (i := 0) (rL_at (Nat.zero_le _))
  repeat walk_at "hz"
  rw [g]
  refine t_whB (fun g0 => ?_) fun g0 => ?_
  · have jl : j + 1 ≤ ns.length - H := by
      refine Classical.byContradiction fun c => ?_
      have := wf_way hd' j w0
      rw [show ns.length - H - j = 0 by omega] at this
      omega
    repeat walk_at "hz"
    rename_i pz
    refine t_ixL (by walk_at "pk") (atI_last us _) ?_
    repeat walk_at "hz"
    refine t_forK (wk_list (xs := (rL ns H top j).map V.int)) (fun u ((j5, j7, j8) : Option V × Option V × Option V) => [some (.ref a), some (.int H), some (.int ns.length), some (.ref ps), some (.ref p0), j5, some (.ref pz), j7, j8]) (fun u ((j5, j7, j8) : Option V × Option V × Option V) => (pz, .lst ((suL (wf ns H j) (u + 1)).map V.int)) :: (p0, .lst (us ++ [.ref T])) :: (N ++ ((ps, .lst ((stopsI ns).map V.int)) :: L))) (fun u ((j5, j7, j8) : Option V × Option V × Option V) => True) ⟨(_, _, _), trivial, rfl, (by walk_at "sb")⟩ (fun _ _ _ => ⟨_, (by walk_at "pk")⟩) ?_ ?_
    · rintro u ⟨j5, j7, j8⟩ v L' hu - ⟨hv, rfl⟩
      try dsimp only at  ⊢
      simp only [List.nil_append, List.cons_append]
      obtain ⟨w2, hw, rfl⟩ := map_get hv
      rw [List.length_map, rL_len] at hu
      obtain rfl : wf ns H j u = w2 := Option.some.inj ((rL_at (j := j) (show u ≤ top by omega)).symm.trans hw)
      have sl2 := suL_len (wf ns H j) (u + 1)
      repeat walk_at "hz"
      refine t_ixL (by walk_at "pk") (by rw [suL_snoc]; exact at_lastI _ _) ?_
      repeat walk_at "hz"
      rw [show sg u (wf ns H j) + wf ns H j u = sg (u + 1) (wf ns H j) from (sg_succ _ _).symm, ← suL_snoc (wf ns H j) (u + 1)]
      refine t_pst (_, _, _) trivial rfl (by walk_at "sb")
    · rintro ⟨j5, j7, j8⟩ -
      try dsimp only at  ⊢
      rw [List.length_map, rL_len]
      have sl2 := suL_len (wf ns H j) (top + 1 + 1)
      repeat walk_at "hz"
      refine t_ixL (by walk_at "pk") (at_lastD (-1) (by omega)) ?_
      rw [el]
      repeat walk_at "hz"
      refine t_lcMap wk_range (by rfl) ((rL ns H top (j + 1)).map V.int) (by rw [List.length_map, rL_len]; omega) (fun _ => trivial) ?_ ?_
      · rintro D i v L' hi ⟨rfl, rfl⟩
        rw [List.nil_append, Int.zero_add]
        repeat walk_at "hz"
        refine t_iteD (fun c => ?_) fun c => ?_
        · have sb := spb (i + H) (by omega)
          have dd := hd' (i + H) (by omega)
          have as : atD (stopsI ns) ((i : Int) + (H : Int)) = (spN ns (i + H) : Nat) := by
            unfold spN
            rw [show (i : Int) + (H : Int) = ((i + H : Nat) : Int) by omega]
            have b := stopsFrom_get 0 ns (i + H) _ (List.getElem?_eq_getElem (by omega))
            have e2 : atD ns ((i + H : Nat) : Int) = ns[i + H] := atD_nat (List.getElem?_eq_getElem (by omega))
            have b' : atD (stopsI ns) ((i + H : Nat) : Int) = 0 + ((i + H : Nat) : Int) - ns[i + H] := atD_nat b
            have h5 := ho.at (i := ((i + H : Nat) : Int)) (by omega) (by omega)
            rw [b', ← e2]
            omega
          repeat walk_at "hz"
          rw [as]
          repeat walk_at "hz"
          have a1 : atD (suL (wf ns H j) (top + 1 + 1)) ((spN ns (i + H) : Nat) + 1) = sg (spN ns (i + H) + 1) (wf ns H j) := atD_nat (i := spN ns (i + H) + 1) (suL_at (by omega))
          have a2 : atD (suL (wf ns H j) (top + 1 + 1)) ((i : Int) + 1) = sg (i + 1) (wf ns H j) := atD_nat (i := i + 1) (suL_at (by omega))
          rw [a1, a2, wf_sub (by omega) (by omega)]
          exact t_lcMp (by walk_at "pk") (get_map _ (rL_at (by omega))) (by rw [sizeLine_eq, List.length_map, rL_len]; omega) (by walk_at "sb")
        · repeat walk_at "hz"
          have e0 : wf ns H (j + 1) i = 0 := by rw [wf, if_neg (by omega)]
          rw [← e0]
          exact t_lcMp (by walk_at "pk") (get_map _ (rL_at (by omega))) (by rw [sizeLine_eq, List.length_map, rL_len]; omega) (by walk_at "sb")
      intro D
      repeat walk_at "hz"
      have nw : Rws ((D, .lst ((rL ns H top (j + 1)).map V.int)) :: N) ((us ++ [.ref T]) ++ [.ref D]) (rS ns H top (j + 1 + 1)) := by
        rw [rS_snoc ns H top (j + 1)]
        exact (hR.mono fun _ h => .tail _ h).snoc (.head _)
      have nz : ∀ i, i < j + 1 → wf ns H i 0 = 0 := fun i hi => by
        by_cases c : i < j
        · exact w1 i c
        · rw [show i = j by omega]; exact g0
      refine t_whl (us ++ [.ref T], D, (D, .lst ((rL ns H top (j + 1)).map V.int)) :: N, j + 1, _, _, _, _) ⟨nw, .head _, jl, nz⟩ (by (try dsimp only); omega) rfl (by walk_at "sb")
  · repeat walk_at "hz"
    have jf : jF ns H = j := jF_eq (by omega) g0 w1
    have wp := wf_pos ns H j 0
    have q := q p0 (us ++ [.ref T]) N
    rw [jf] at q
    exact (q hR (by omega) (by omega)).sub (by walk_at "sb")

def sp_count_shortest  : Sp := fun vs H Q E => ∃ (a : Addr) (ns : List Int) (h : Int) (L : Lg), vs = [.ref a, .int h] ∧ Led H (L) ∧ ((a, .lst (ns.map V.int)) ∈ L) ∧ (Outline ns) ∧ (1 ≤ h) ∧ (h ≤ 400) ∧ (∀ k : Int, 0 ≤ k → k < ns.length → atD ns k < h) ∧ Tr (L) (fun H => Q (.int (wf ns h.toNat (jF ns h.toNat) 0)) H)
theorem use_count_shortest {L : Lg} {Q : VK} {E : XK} {a : Addr} {ns : List Int} {h : Int} (hm : (a, .lst (ns.map V.int)) ∈ L) (ho : Outline ns) (h0 : 1 ≤ h) (h1 : h ≤ 400) (hd : ∀ k : Int, 0 ≤ k → k < ns.length → atD ns k < h) (q : Tr (L) (fun H => Q (.int (wf ns h.toNat (jF ns h.toNat) 0)) H)) : Tr L fun H => sp_count_shortest [.ref a, .int h] H Q E :=
  fun H l => ⟨a, ns, h, L, rfl, l, hm, ho, h0, h1, hd, q⟩

theorem ok_count_shortest (D : Df K mg "count_shortest" s_count_shortest) (B : Blt mg) (k_check_arguments : Ok P w K mg base CX0 4 "check_arguments" ["outline", "height"] sp_check_arguments) (k_ways_to_finish : Ok P w K mg base CX0 2 "ways_to_finish" ["outline", "height"] sp_ways_to_finish) : Ok P w K mg base CX0 5 "count_shortest" ["outline", "height"] sp_count_shortest := by
  obtain ⟨f, fd, hm, F⟩ := D
  refine ⟨f, fd, hm, F.kp, F.binds (fun _ _ _ _ _ _ us hl => match us, hl with | [_, _], _ => rfl), FunOkG F sc_count_shortest (fun vs H Q E h => ?_) (fun cdv A outer s H vs Q E hr h => ?_), F.lk⟩
  · obtain ⟨_, _, _, _, rfl, _⟩ := h; rfl
  obtain ⟨a, ns, h, L, rfl, l, hm, ho, h0, h1, hd, q⟩ := h
  refine ⟨_, PSs.nox (pss_cons (ps_expr (pe_callG k_check_arguments (hr.mono (by omega)) pas0 (pa_cons (pv 0) (pa_cons (pv 1) pa_nil))))
      (pss_one (ps_ret (pe_ix ix_list (pe_ix ix_list (pe_callG k_ways_to_finish (hr.mono (by omega)) pas0 (pa_cons (pv 0) (pa_cons (pv 1) pa_nil))) (pe_un un_neg pe_int) (fun _ _ => rfl)) pe_int (fun _ _ => rfl))))), ?_⟩
  rw [show L2.start ["outline", "height"] [.ref a, .int h] = [some (.ref a), some (.int h)] from rfl]
  refine Tr.of ?_ l
  obtain ⟨R_hm, P_hm⟩ := Pick.of_mem hm
  repeat walk_at "hz"
  refine use_check_arguments hm ho h0 h1 hd ?_
  repeat walk_at "hz"
  refine use_ways_to_finish hm ho h0 h1 hd fun p us N hR _ _ => ?_
  obtain ⟨j, hj⟩ : ∃ j, j = jF ns h.toNat := ⟨_, rfl⟩
  rw [← hj] at q hR
  rw [rS_snoc] at hR
  obtain ⟨us0, T, rfl, ul, mT⟩ := hR.last
  obtain ⟨RT, pT⟩ := Pick.of_mem (List.mem_append_left L mT)
  have rl := rL_len ns h.toNat (spN ns (ns.length - 1)) j
  have g : atD (rL ns h.toNat (spN ns (ns.length - 1)) j) 0 = wf ns h.toNat j 0 := atD_nat (i := 0) (rL_at (Nat.zero_le _))
  repeat walk_at "hz"
  refine t_ixL (by walk_at "pk") (atI_last us0 _) ?_
  repeat walk_at "hz"
  rw [g]
  exact q.sub (by walk_at "sb")
def sp_nth_shortest  : Sp := fun vs H Q E => ∃ (a : Addr) (ns : List Int) (h i : Int) (L : Lg), vs = [.ref a, .int h, .int i] ∧ Led H (L) ∧ ((a, .lst (ns.map V.int)) ∈ L) ∧ (Outline ns) ∧ (1 ≤ h) ∧ (h ≤ 400) ∧ (∀ k : Int, 0 ≤ k → k < ns.length → atD ns k < h) ∧ (0 ≤ i) ∧ (i < wf ns h.toNat (jF ns h.toNat) 0) ∧ ∀ (p : Addr) (ds : List Int), ((gr ns h.toNat (jF ns h.toNat) 0)[i.toNat]? = some ds) → Tr ((p, .lst ((0 :: ds).map V.int)) :: L) (fun H => Q (.ref p) H)
theorem use_nth_shortest {L : Lg} {Q : VK} {E : XK} {a : Addr} {ns : List Int} {h i : Int} (hm : (a, .lst (ns.map V.int)) ∈ L) (ho : Outline ns) (h0 : 1 ≤ h) (h1 : h ≤ 400) (hd : ∀ k : Int, 0 ≤ k → k < ns.length → atD ns k < h) (i0 : 0 ≤ i) (i1 : i < wf ns h.toNat (jF ns h.toNat) 0) (q : ∀ (p : Addr) (ds : List Int), ((gr ns h.toNat (jF ns h.toNat) 0)[i.toNat]? = some ds) → Tr ((p, .lst ((0 :: ds).map V.int)) :: L) (fun H => Q (.ref p) H)) : Tr L fun H => sp_nth_shortest [.ref a, .int h, .int i] H Q E :=
  fun H l => ⟨a, ns, h, i, L, rfl, l, hm, ho, h0, h1, hd, i0, i1, q⟩

theorem ok_nth_shortest (D : Df K mg "nth_shortest" s_nth_shortest) (B : Blt mg) (k_is_integer : Ok P w K mg base CX0 1 "is_integer" ["value"] sp_is_integer) (k_check_arguments : Ok P w K mg base CX0 4 "check_arguments" ["outline", "height"] sp_check_arguments) (k_ways_to_finish : Ok P w K mg base CX0 2 "ways_to_finish" ["outline", "height"] sp_ways_to_finish) : Ok P w K mg base CX0 5 "nth_shortest" ["outline", "height", "index"] sp_nth_shortest := by
  obtain ⟨f, fd, hm, F⟩ := D
  refine ⟨f, fd, hm, F.kp, F.binds (fun _ _ _ _ _ _ us hl => match us, hl with | [_, _, _], _ => rfl), FunOkG F sc_nth_shortest (fun vs H Q E h => ?_) (fun cdv A outer s H vs Q E hr h => ?_), F.lk⟩
  · obtain ⟨_, _, _, _, _, rfl, _⟩ := h; rfl
  obtain ⟨a, ns, h, i, L, rfl, l, hm, ho, h0, h1, hd, i0, i1, q⟩ := h
  refine ⟨_, PSs.nox (pss_cons (ps_expr (pe_callG k_check_arguments (hr.mono (by omega)) pas0 (pa_cons (pv 0) (pa_cons (pv 1) pa_nil))))
      (pss_cons (ps_set (i := 3) sc_nth_shortest.nd rfl (.inl rfl) (pe_callG k_ways_to_finish (hr.mono (by omega)) pas0 (pa_cons (pv 0) (pa_cons (pv 1) pa_nil))))
      (pss_cons (ps_if (PW.pt (pw_or (pt_not (pt_val (pe_callG k_is_integer (hr.mono (by omega)) pas0 (pa_cons (pv 2) pa_nil)))) (pw_or1 (pt_not (pt_chain op_le op_lt pe_int (pv 2) (pe_ix ix_list (pe_ix ix_list (pv 3) (pe_un un_neg pe_int) (fun _ _ => rfl)) pe_int (fun _ _ => rfl))))))) pss_never
        pss_nil)
      (pss_cons (ps_set (i := 4) sc_nth_shortest.nd rfl (.inl rfl) (pe_lst (pa_cons pe_int pa_nil)))
      (pss_cons (ps_for PassesOwn.never rfl (pi_list (pe_rev2 (pv 3))) (pg_name (i := 5) sc_nth_shortest.nd rfl (.inl rfl))
        (pss_cons (ps_set (i := 6) sc_nth_shortest.nd rfl (.inl rfl) (pe_op op_add (pe_ix ix_list (pv 4) (pe_un un_neg pe_int) (fun _ _ => rfl)) pe_int))
      (pss_cons (ps_while PassesOwn.never (pt_cmpR op_ge (pv 2) (pe_ix ix_list (pv 5) (pv 6) (fun _ _ => rfl)) (nomark _))
        (pss_cons (ps_aug (i := 2) sc_nth_shortest.nd rfl (.inl rfl) (pe_ix ix_list (pv 5) (pv 6) (fun _ _ => rfl)) ip_sub)
      (pss_one (ps_aug (i := 6) sc_nth_shortest.nd rfl (.inl rfl) pe_int ip_add))))
      (pss_one (ps_expr (pe_bm PySem.F.plainAttrs_list PySem.F.slot_list_append PySem.F.type_list_append mt_append (pv 4) (pa_cons (pv 6) pa_nil)))))))
      (pss_one (ps_ret (pv 4)))))))), ?_⟩
  rw [show L2.start ["outline", "height", "index", "rows", "scrolls", "row", "scroll"] [.ref a, .int h, .int i] = [some (.ref a), some (.int h), some (.int i), none, none, none, none] from rfl]
  refine Tr.of ?_ l
  obtain ⟨R_hm, P_hm⟩ := Pick.of_mem hm
  repeat walk_at "hz"
  refine use_check_arguments hm ho h0 h1 hd ?_
  repeat walk_at "hz"
  refine use_ways_to_finish hm ho h0 h1 hd fun p us N hR _ Jn => ?_
  obtain ⟨H, rfl⟩ : ∃ H : Nat, h = (H : Int) := ⟨h.toNat, by omega⟩
  rw [Int.toNat_natCast] at hR q i1
  obtain ⟨J, hJ⟩ : ∃ j, j = jF ns H := ⟨_, rfl⟩
  rw [Int.toNat_natCast, ← hJ] at Jn
  rw [← hJ] at q hR i1
  have hl := ho.len
  have hd' : ∀ i : Nat, i < ns.length → atD ns i < H := fun i hi => hd i (by omega) (by omega)
  obtain ⟨top, htop⟩ : ∃ top, top = spN ns (ns.length - 1) := ⟨_, rfl⟩
  rw [← htop] at hR
  have hR0 := hR
  rw [rS_snoc] at hR0
  obtain ⟨us0, T0, rfl, ul, mT⟩ := hR0.last
  rw [rS_len] at ul
  obtain ⟨RT, pT⟩ := Pick.of_mem (List.mem_append_left L mT)
  have rl := rL_len ns H top J
  have g : atD (rL ns H top J) 0 = wf ns H J 0 := atD_nat (i := 0) (rL_at (Nat.zero_le _))
  repeat walk_at "hz"
  have spb : ∀ k : Nat, k < ns.length → ((spN ns k : Nat) : Int) = (k : Int) - atD ns k ∧ spN ns k ≤ top := fun i hi => by
    have a := spN_ge hi
    have b := ho.at (i := (i : Int)) (by omega) (by omega)
    have m := sp_mono ho (show i ≤ ns.length - 1 by omega) (by omega)
    have c := ho.at (i := ((ns.length - 1 : Nat) : Int)) (by omega) (by omega)
    have d := spN_ge (ns := ns) (i := ns.length - 1) (by omega)
    rw [← htop] at d
    omega
  have tb := spb (ns.length - 1) (by omega)
  rw [← htop] at tb
  have h9 := ho.at (i := ((ns.length - 1 : Nat) : Int)) (by omega) (by omega)
  refine use_is_integer (.int i) ?_
  rw [← g] at i1
  repeat walk_at "hz"
  refine t_ixL (by walk_at "pk") (atI_last us0 _) ?_
  repeat walk_at "hz"
  rw [g] at i1
  rw [List.dropLast_concat]
  rename_i po pr
  obtain ⟨i0', hi0⟩ : ∃ k, k = i := ⟨_, rfl⟩
  refine t_forK (wk_list (xs := us0.reverse)) (fun t ((acc, i', pd, j5, j6) : (List Int) × Int × Nat × Option V × Option V) => [some (.ref a), some (.int H), some (.int i'), some (.ref p), some (.ref po), j5, j6]) (fun t ((acc, i', pd, j5, j6) : (List Int) × Int × Nat × Option V × Option V) => (po, .lst ((0 :: acc).map V.int)) :: (pr, .lst us0.reverse) :: (p, .lst (us0 ++ [.ref T0])) :: (N ++ L)) (fun t ((acc, i', pd, j5, j6) : (List Int) × Int × Nat × Option V × Option V) => 0 ≤ i' ∧ i' < wf ns H (J - t) pd ∧ acc.length = t ∧ lastD 0 acc = pd ∧ ∀ l, (gr ns H (J - t) pd)[i'.toNat]? = some l → (gr ns H J 0)[i.toNat]? = some (acc ++ l)) ⟨([], i, 0, _, _), ⟨i0, i1, rfl, rfl, fun l h => h⟩, rfl, (by walk_at "sb")⟩ (fun _ _ _ => ⟨_, (by walk_at "pk")⟩) ?_ ?_
  · rintro t ⟨acc, i', pd, j5, j6⟩ v L' ht ⟨k0, k1, k2, kl, k3⟩ ⟨hv, rfl⟩
    try dsimp only at k0 k1 k2 kl k3 ⊢
    simp only [List.nil_append, List.cons_append]
    rw [List.length_reverse] at ht
    obtain ⟨r, hr⟩ : ∃ r, J - t = r + 1 := ⟨J - t - 1, by omega⟩
    rw [hr] at k1 k3
    rw [List.getElem?_reverse ht] at hv
    have hv2 : (us0 ++ [V.ref T0])[us0.length - 1 - t]? = some v := by rw [List.getElem?_append_left (by omega)]; exact hv
    obtain ⟨T2, row, rfl, he, mr⟩ := hR.at hv2
    rw [rS_at (by omega)] at he
    obtain rfl := Option.some.inj he
    rw [show us0.length - 1 - t = r by omega] at mr
    obtain ⟨R2, pT2⟩ := Pick.of_mem (List.mem_append_left L mr)
    have rl2 := rL_len ns H top r
    have cH : pd + H < ns.length := by
      refine Classical.byContradiction fun c => ?_
      rw [wf, if_neg c] at k1
      omega
    rw [wf, if_pos cH] at k1
    have sb := spb (pd + H) cH
    repeat walk_at "hz"
    refine t_ixL (by walk_at "pk") (at_lastD 0 (by simp)) ?_
    rw [show lastD 0 (0 :: acc) = lastD 0 acc from rfl, kl]
    repeat walk_at "hz"
    refine t_whG (fun ((i2, e') : Int × Nat) => [some (.ref a), some (.int H), some (.int i2), some (.ref p), some (.ref po), some (.ref T2), some (.int ((pd : Int) + 1 + (e' : Nat)))]) (fun ((i2, e') : Int × Nat) => (po, .lst ((0 :: acc).map V.int)) :: (pr, .lst us0.reverse) :: (p, .lst (us0 ++ [.ref T0])) :: (N ++ L)) (fun ((i2, e') : Int × Nat) => 0 ≤ i2 ∧ e' ≤ spN ns (pd + H) - pd ∧ i2 = i' - sg e' (fun k => wf ns H r (pd + 1 + k))) (fun ((i2, e') : Int × Nat) => (top + 1 - e')) ⟨(i', 0), ⟨k0, Nat.zero_le _, by rw [sg_zero0]; omega⟩, rfl, (by walk_at "sb")⟩ ?_
    rintro ⟨i2, e'⟩ ⟨w0, w1, w2⟩
    try dsimp only at w0 w1 w2 ⊢
    have w3 : e' < spN ns (pd + H) - pd := by
      refine Classical.byContradiction fun c => ?_
      rw [show e' = spN ns (pd + H) - pd by omega] at w2
      omega
    have ge : atD (rL ns H top r) ((pd : Int) + 1 + (e' : Nat)) = wf ns H r (pd + 1 + e') := by
      rw [show (pd : Int) + 1 + (e' : Nat) = ((pd + 1 + e' : Nat) : Int) by omega]
      exact atD_nat (rL_at (by omega))
    have ss := sg_succ e' fun k => wf ns H r (pd + 1 + k)
    repeat walk_at "hz"
    rw [ge]
    refine t_whB (fun g => ?_) fun g => ?_
    · repeat walk_at "hz"
      rw [ge]
      rw [show (pd : Int) + 1 + (e' : Nat) + 1 = (pd : Int) + 1 + ((e' + 1 : Nat) : Int) by omega]
      refine t_whl (i2 - wf ns H r (pd + 1 + e'), e' + 1) ⟨by omega, by omega, by dsimp only; omega⟩ (by (try dsimp only); omega) rfl (by walk_at "sb")
    · have nx : ∀ l, (gr ns H r (pd + 1 + e'))[i2.toNat]? = some l → (gr ns H J 0)[i.toNat]? = some ((acc ++ [(((pd + 1 + e' : Nat)) : Int)]) ++ l) := fun l hl => by
        obtain ⟨m, h1, h2⟩ := gr_step (s := pd + 1 + e') cH (by omega) (by omega) (by rw [Int.toNat_of_nonneg w0]; omega) hl
        rw [show pd + 1 + e' - pd - 1 = e' by omega] at h1
        rw [show m = i'.toNat by omega] at h2
        have := k3 _ h2
        rw [this, List.append_assoc]; rfl
      repeat walk_at "hz"
      rw [show (pd : Int) + 1 + (e' : Nat) = ((pd + 1 + e' : Nat) : Int) by omega]
      refine t_pst (acc ++ [((pd + 1 + e' : Nat) : Int)], i2, pd + 1 + e', _, _) ⟨w0, by rw [show J - (t + 1) = r by omega]; dsimp only; omega, by simp [k2], lastD_append _ _ _, by rw [show J - (t + 1) = r by omega]; exact nx⟩ rfl (by walk_at "sb")
  · rintro ⟨acc, i', pd, j5, j6⟩ ⟨k0, k1, k2, kl, k3⟩
    try dsimp only at k0 k1 k2 kl k3 ⊢
    rw [List.length_reverse, ul] at k1 k3
    rw [Nat.sub_self] at k1 k3
    have cH : ns.length ≤ pd + H := by
      refine Classical.byContradiction fun c => ?_
      rw [wf, if_neg c] at k1
      omega
    rw [wf, if_pos cH] at k1
    have k4 := k3 [] (by rw [gr, if_pos cH, show i'.toNat = 0 by omega]; rfl)
    rw [List.append_nil] at k4
    repeat walk_at "hz"
    exact (q po acc k4).sub (by walk_at "sb")

def sp_rank_shortest  : Sp := fun vs H Q E => ∃ (a b : Addr) (ns : List Int) (h : Int) (ds : List Int) (i : Nat) (L : Lg), vs = [.ref a, .int h, .ref b] ∧ Led H (L) ∧ ((a, .lst (ns.map V.int)) ∈ L) ∧ (Outline ns) ∧ (1 ≤ h) ∧ (h ≤ 400) ∧ (∀ k : Int, 0 ≤ k → k < ns.length → atD ns k < h) ∧ ((b, .lst ((0 :: ds).map V.int)) ∈ L) ∧ ((gr ns h.toNat (jF ns h.toNat) 0)[i]? = some ds) ∧ Tr (L) (fun H => Q (.int (i : Nat)) H)
theorem use_rank_shortest {L : Lg} {Q : VK} {E : XK} {a b : Addr} {ns : List Int} {h : Int} {ds : List Int} {i : Nat} (hm : (a, .lst (ns.map V.int)) ∈ L) (ho : Outline ns) (h0 : 1 ≤ h) (h1 : h ≤ 400) (hd : ∀ k : Int, 0 ≤ k → k < ns.length → atD ns k < h) (hb : (b, .lst ((0 :: ds).map V.int)) ∈ L) (hi : (gr ns h.toNat (jF ns h.toNat) 0)[i]? = some ds) (q : Tr (L) (fun H => Q (.int (i : Nat)) H)) : Tr L fun H => sp_rank_shortest [.ref a, .int h, .ref b] H Q E :=
  fun H l => ⟨a, b, ns, h, ds, i, L, rfl, l, hm, ho, h0, h1, hd, hb, hi, q⟩

theorem ok_rank_shortest (D : Df K mg "rank_shortest" s_rank_shortest) (B : Blt mg) (k_is_integer : Ok P w K mg base CX0 1 "is_integer" ["value"] sp_is_integer) (k_stops_of : Ok P w K mg base CX0 1 "stops_of" ["outline"] sp_stops_of) (k_check_arguments : Ok P w K mg base CX0 4 "check_arguments" ["outline", "height"] sp_check_arguments) (k_ways_to_finish : Ok P w K mg base CX0 2 "ways_to_finish" ["outline", "height"] sp_ways_to_finish) : Ok P w K mg base CX0 5 "rank_shortest" ["outline", "height", "scrolls"] sp_rank_shortest := by
  obtain ⟨f, fd, hm, F⟩ := D
  refine ⟨f, fd, hm, F.kp, F.binds (fun _ _ _ _ _ _ us hl => match us, hl with | [_, _, _], _ => rfl), FunOkG F sc_rank_shortest (fun vs H Q E h => ?_) (fun cdv A outer s H vs Q E hr h => ?_), F.lk⟩
  · obtain ⟨_, _, _, _, _, _, _, rfl, _⟩ := h; rfl
  obtain ⟨a, b, ns, h, ds, i, L, rfl, l, hm, ho, h0, h1, hd, hb, hi, q⟩ := h
  refine ⟨_, PSs.nox (pss_cons (ps_expr (pe_callG k_check_arguments (hr.mono (by omega)) pas0 (pa_cons (pv 0) (pa_cons (pv 1) pa_nil))))
      (pss_cons (ps_set (i := 3) sc_rank_shortest.nd rfl (.inl rfl) (pe_callG k_ways_to_finish (hr.mono (by omega)) pas0 (pa_cons (pv 0) (pa_cons (pv 1) pa_nil))))
      (pss_cons (ps_if (PW.pt (pw_or (pt_not (pt_val (pe_callB c_is rfl B.isinstance_ boot_isinstance (pa_cons (pv 2) (pa_cons (pe_ty B.list_ boot_list) pa_nil))))) (pw_or (pt_cmpR op_ne (pe_callB c_len rfl B.len_ boot_len (pa_cons (pv 2) pa_nil)) (pe_callB c_len rfl B.len_ boot_len (pa_cons (pv 3) pa_nil)) (nomark _)) (pw_or1 (pt_not (pt_val (pe_callB (cr_all rfl) rfl B.all_ boot_all (pa_cons (pe_lc (own := [("one", 4)]) (g := gName 4) (by rfl) sc_rank_shortest.nd (pi_list (pv 2)) (blkOk_by (own := [("one", 4)]) (N := ["outline", "height", "scrolls", "rows", "one", "stops", "index", "row", "scroll", "following"]) (sc := defScope s_rank_shortest) (by decide +kernel)) (fun _ _ _ _ _ => (pg_name (i := 4) sc_rank_shortest.nd rfl (.inl rfl))) (fun _ _ _ _ _ => pts_nil) (fun _ _ _ _ _ => (pe_callG k_is_integer (hr.mono (by omega)) pas0 (pa_cons (pv 4) pa_nil)))) pa_nil)))))))) pss_never
        pss_nil)
      (pss_cons (ps_if (pt_cmpR op_ne (pe_ix ix_list (pv 2) pe_int (fun _ _ => rfl)) pe_int (nomark _)) pss_never
        pss_nil)
      (pss_cons (ps_set (i := 5) sc_rank_shortest.nd rfl (.inl rfl) (pe_callG k_stops_of (hr.mono (by omega)) pas0 (pa_cons (pv 0) pa_nil)))
      (pss_cons (ps_set (i := 6) sc_rank_shortest.nd rfl (.inl rfl) pe_int)
      (pss_cons (ps_for PassesOwn.never rfl (pi_zip3 (by rfl) B.zip_ (pa_cons (pe_rev2 (pv 3)) (pa_cons (pv 2) (pa_cons (pe_slice sl_list (pv 2) (po_some pe_int) po_none) pa_nil)))) (pg_tup rfl (pgs_cons (pg_name (i := 7) sc_rank_shortest.nd rfl (.inl rfl)) (pgs_cons (pg_name (i := 8) sc_rank_shortest.nd rfl (.inl rfl)) (pgs_cons (pg_name (i := 9) sc_rank_shortest.nd rfl (.inl rfl)) pgs_nil))))
        (pss_cons (ps_if (PW.pt (pw_or (pt_cmpR op_ge (pe_op op_add (pv 8) (pv 1)) (pe_callB c_len rfl B.len_ boot_len (pa_cons (pv 0) pa_nil)) (nomark _)) (pw_or1 (pt_not (pt_chain op_lt op_le (pv 8) (pv 9) (pe_ix ix_list (pv 5) (pe_op op_add (pv 8) (pv 1)) (fun _ _ => rfl))))))) pss_never
        pss_nil)
      (pss_one (ps_aug (i := 6) sc_rank_shortest.nd rfl (.inl rfl) (pe_callB (cr_sum rfl) rfl B.sum_ boot_sum (pa_cons (pe_slice sl_list (pv 7) (po_some (pe_op op_add (pv 8) pe_int)) (po_some (pv 9))) pa_nil)) ip_add))))
      (pss_cons (ps_if (pt_cmpR op_lt (pe_op op_add (pe_ix ix_list (pv 2) (pe_un un_neg pe_int) (fun _ _ => rfl)) (pv 1)) (pe_callB c_len rfl B.len_ boot_len (pa_cons (pv 0) pa_nil)) (nomark _)) pss_never
        pss_nil)
      (pss_one (ps_ret (pv 6))))))))))), ?_⟩
  rw [show L2.start ["outline", "height", "scrolls", "rows", "one", "stops", "index", "row", "scroll", "following"] [.ref a, .int h, .ref b] = [some (.ref a), some (.int h), some (.ref b), none, none, none, none, none, none, none] from rfl]
  refine Tr.of ?_ l
  obtain ⟨R_hm, P_hm⟩ := Pick.of_mem hm
  obtain ⟨R_hb, P_hb⟩ := Pick.of_mem hb
  repeat walk_at "hz"
  refine use_check_arguments hm ho h0 h1 hd ?_
  repeat walk_at "hz"
  refine use_ways_to_finish hm ho h0 h1 hd fun p us N hR _ Jn => ?_
  obtain ⟨H, rfl⟩ : ∃ H : Nat, h = (H : Int) := ⟨h.toNat, by omega⟩
  rw [Int.toNat_natCast] at hR hi Jn
  obtain ⟨J, hJ⟩ : ∃ j, j = jF ns H := ⟨_, rfl⟩
  rw [← hJ] at hR hi Jn
  have hl := ho.len
  have dsl := gr_llen ns H J 0 i ds hi
  obtain ⟨top, htop⟩ : ∃ top, top = spN ns (ns.length - 1) := ⟨_, rfl⟩
  rw [← htop] at hR
  have hR0 := hR
  rw [rS_snoc] at hR0
  obtain ⟨us0, T0, rfl, ul, mT⟩ := hR0.last
  rw [rS_len] at ul
  have spb : ∀ k : Nat, k < ns.length → ((spN ns k : Nat) : Int) = (k : Int) - atD ns k ∧ spN ns k ≤ top ∧ atD (stopsI ns) (k : Nat) = (spN ns k : Nat) := fun i hi => by
    have a := spN_ge hi
    have b := ho.at (i := (i : Int)) (by omega) (by omega)
    have m := sp_mono ho (show i ≤ ns.length - 1 by omega) (by omega)
    have c := ho.at (i := ((ns.length - 1 : Nat) : Int)) (by omega) (by omega)
    have d := spN_ge (ns := ns) (i := ns.length - 1) (by omega)
    rw [← htop] at d
    have b2 := stopsFrom_get 0 ns i _ (List.getElem?_eq_getElem hi)
    have e2 : atD ns (i : Nat) = ns[i] := atD_nat (List.getElem?_eq_getElem hi)
    have b' : atD (stopsI ns) (i : Nat) = 0 + (i : Nat) - ns[i] := atD_nat b2
    rw [b', ← e2]
    omega
  have sl : (stopsI ns).length = ns.length := stopsFrom_len 0 ns
  have hl3 := hR.len
  rw [rS_len] at hl3
  repeat walk_at "hz"
  have dl : (0 :: ds).length = J + 1 := by rw [List.length_cons, dsl]
  refine t_is (.lst (by walk_at "mb")) (by decide) ?_
  repeat walk_at "hz"
  refine t_lcMap (wk_list (xs := (0 :: ds).map V.int)) (by rfl) ((List.replicate (ds.length + 1) true).map V.bl) (by simp) (fun x => ⟨_, (by walk_at "pk")⟩) ?_ ?_
  · rintro D k v L' hk ⟨hv, rfl⟩
    obtain ⟨z, hz1, rfl⟩ := map_get hv
    repeat walk_at "hz"
    refine use_is_integer (.int z) ?_
    rw [show isInt (.int z) = true from rfl]
    repeat walk_at "hz"
    refine t_lcMp (by walk_at "pk") ?_ (by rw [sizeLine_eq, List.length_map, List.length_replicate]; omega) (by walk_at "sb")
    rw [List.map_replicate, List.getElem?_replicate, if_pos (by simpa using hk)]
  intro D
  repeat walk_at "hz"
  refine t_all .head ?_
  rw [show (List.replicate (ds.length + 1) true).all id = true by simp]
  repeat walk_at "hz"
  refine use_stops_of (ns := ns) (by simp [hm]) (by omega) fun ps => ?_
  repeat walk_at "hz"
  rw [cutI_after (by decide), show (1 : Int).toNat = 1 from rfl, List.drop_one, List.tail_cons, List.dropLast_concat]
  rename_i pr pt
  refine Tr.sub (?_ : Tr ((ps, .lst ((stopsI ns).map V.int)) :: (pr, .lst us0.reverse) :: (pt, .lst (ds.map V.int)) :: (N ++ L)) _) (by walk_at "sb")
  refine t_forK (wk_zip3 (xs := us0.reverse) (ys := (0 :: ds).map V.int) (zs := ds.map V.int)) (fun t ((x, i', pd, j4, j7, j8, j9) : Int × Nat × Nat × Option V × Option V × Option V × Option V) => [some (.ref a), some (.int H), some (.ref b), some (.ref p), j4, some (.ref ps), some (.int x), j7, j8, j9]) (fun t ((x, i', pd, j4, j7, j8, j9) : Int × Nat × Nat × Option V × Option V × Option V × Option V) => (ps, .lst ((stopsI ns).map V.int)) :: (pr, .lst us0.reverse) :: (pt, .lst (ds.map V.int)) :: (N ++ L)) (fun t ((x, i', pd, j4, j7, j8, j9) : Int × Nat × Nat × Option V × Option V × Option V × Option V) => x = (i : Int) - (i' : Nat) ∧ (0 :: ds)[t]? = some (pd : Int) ∧ (gr ns H (J - t) pd)[i']? = some (ds.drop t)) ⟨(0, i, 0, _, _, _, _), ⟨by omega, rfl, hi⟩, rfl, (by walk_at "sb")⟩ (fun _ _ _ => ⟨⟨_, (by walk_at "pk")⟩, ⟨_, (by walk_at "pk")⟩, ⟨_, (by walk_at "pk")⟩⟩) ?_ ?_
  · rintro t ⟨x, i', pd, j4, j7, j8, j9⟩ v L' ht ⟨kx, k0, k1⟩ ⟨T, xv, yv, zv, rfl, hxv, hyv, hzv, rfl⟩
    try dsimp only at kx k0 k1 ⊢
    simp only [List.nil_append, List.cons_append]
    rw [List.length_reverse, List.length_map, List.length_map] at ht
    obtain ⟨r, hr⟩ : ∃ r, J - t = r + 1 := ⟨J - t - 1, by omega⟩
    rw [hr] at k1
    obtain ⟨s0, i2, l', hdr, cH, g1, g2, g3, g4⟩ := gr_in k1
    have hs : ds[t]? = some (s0 : Int) := by
      have : (ds.drop t)[0]? = some (s0 : Int) := by rw [hdr]; rfl
      rwa [List.getElem?_drop, Nat.add_zero] at this
    have hdr2 : ds.drop (t + 1) = l' := by
      have : (ds.drop t).drop 1 = l' := by rw [hdr]; rfl
      rwa [List.drop_drop] at this
    obtain ⟨y1, hy1, rfl⟩ := map_get hyv
    obtain rfl := Option.some.inj (k0.symm.trans hy1)
    obtain ⟨z1, hz1, rfl⟩ := map_get hzv
    obtain rfl := Option.some.inj (hs.symm.trans hz1)
    rw [List.getElem?_reverse (by omega)] at hxv
    have hv2 : (us0 ++ [V.ref T0])[us0.length - 1 - t]? = some xv := by rw [List.getElem?_append_left (by omega)]; exact hxv
    obtain ⟨T2, row, rfl, he, mr⟩ := hR.at hv2
    rw [rS_at (by omega)] at he
    obtain rfl := Option.some.inj he
    rw [show us0.length - 1 - t = r by omega] at mr
    obtain ⟨R2, pT2⟩ := Pick.of_mem (List.mem_append_left L mr)
    have rl2 := rL_len ns H top r
    obtain ⟨sb0, sb1, sb2⟩ := spb (pd + H) cH
    have as : atD (stopsI ns) ((pd : Int) + (H : Int)) = (spN ns (pd + H) : Nat) := by
      rw [show (pd : Int) + (H : Int) = ((pd + H : Nat) : Int) by omega]; exact sb2
    repeat walk_at "hz"
    refine t_sum (by walk_at "pk") ?_
    rw [cut_row g1 (by omega)]
    repeat walk_at "hz"
    refine t_pst (x + (sg (s0 - pd - 1) fun k => wf ns H r (pd + 1 + k)), i2, s0, _, _, _, _) ⟨by dsimp only; omega, hs, by rw [show J - (t + 1) = r by omega, hdr2]; exact g4⟩ rfl (by walk_at "sb")
  · rintro ⟨x, i', pd, j4, j7, j8, j9⟩ ⟨kx, k0, k1⟩
    try dsimp only at kx k0 k1 ⊢
    rw [List.length_reverse, List.length_map, List.length_map, show min us0.length (min (0 :: ds).length ds.length) = J by omega] at k0 k1
    rw [Nat.sub_self] at k1
    obtain ⟨-, e2, e3⟩ := gr_end k1
    have el : lastD (-1) (0 :: ds) = pd := by
      have g := last_get (ns := 0 :: ds) (-1) (by simp)
      rw [List.length_map, List.getElem?_map, show (0 :: ds).length - 1 = J by omega, k0] at g
      have := Option.some.inj g
      injection this with h
      exact h.symm
    repeat walk_at "hz"
    refine t_ixL (by walk_at "pk") (at_lastD (-1) (by omega)) ?_
    rw [el]
    repeat walk_at "hz"
    rw [show x = (i : Int) by omega]
    exact q.sub (by walk_at "sb")

/-! ### the law's source of draws -/
def Gen (m : Nat) (o : HO) : Prop := ∃ s0 s1 s2 : Int, o = .lst [.int s0, .int s1, .int s2] ∧ 0 ≤ s0 ∧ 0 ≤ s1 ∧ s1 < 2 ^ 400 ∧ 0 ≤ s2 ∧ s2 ≤ m
theorem Gen.le {m n : Nat} {o : HO} (h : Gen m o) (e : m ≤ n) : Gen n o := by
  obtain ⟨s0, s1, s2, h1, h2, h3, h4, h5, h6⟩ := h
  exact ⟨s0, s1, s2, h1, h2, h3, h4, h5, by omega⟩
def sp_law_open_source (K : PySem.W.Frag) : Sp := fun vs H Q E => ∃ (a : Addr) (ns : List Int) (k : Int) (L : Lg), vs = [.ref a, .int k] ∧ Led H (L) ∧ (Scr K L a ns) ∧ (0 ≤ k) ∧ (k < 1000) ∧ ∀ (p : Addr) (o : HO), (Gen 0 o) → Tr ((p, o) :: L) (fun H => Q (.ref p) H)
theorem use_law_open_source {L : Lg} {Q : VK} {E : XK} {a : Addr} {ns : List Int} {k : Int} (hS : Scr K L a ns) (h0 : 0 ≤ k) (h1 : k < 1000) (q : ∀ (p : Addr) (o : HO), (Gen 0 o) → Tr ((p, o) :: L) (fun H => Q (.ref p) H)) : Tr L fun H => sp_law_open_source K [.ref a, .int k] H Q E :=
  fun H l => ⟨a, ns, k, L, rfl, l, hS, h0, h1, q⟩

theorem ok_law_open_source (D : Df K mg "_law_open_source" s_law_open_source) (B : Blt mg) : Ok P w K mg base CX0 1 "_law_open_source" ["script", "k"] (sp_law_open_source K) := by
  obtain ⟨f, fd, hm, F⟩ := D
  refine ⟨f, fd, hm, F.kp, F.binds (fun _ _ _ _ _ _ us hl => match us, hl with | [_, _], _ => rfl), FunOkG F sc_law_open_source (fun vs H Q E h => ?_) (fun cdv A outer s H vs Q E hr h => ?_), F.lk⟩
  · obtain ⟨_, _, _, _, rfl, _⟩ := h; rfl
  obtain ⟨a, ns, k, L, rfl, l, hS, h0, h1, q⟩ := h
  refine ⟨_, PSs.nox (pss_cons (ps_set (i := 2) sc_law_open_source.nd rfl (.inl rfl) pe_int)
      (pss_cons (ps_if (pt_cmpR op_lt (pv 1) (pe_callB c_len rfl B.len_ boot_len (pa_cons (pv 0) pa_nil)) (nomark _)) (pss_one (ps_set (i := 2) sc_law_open_source.nd rfl (.inl rfl) (pe_ix ix_list (pv 0) (pv 1) (fun _ _ => rfl))))
        pss_nil)
      (pss_one (ps_ret (pe_lst (pa_cons (pe_callB (c_max2 rfl) rfl B.max_ boot_max (pa_cons pe_int (pa_cons (pe_op op_sub (pv 2) (pe_op op_powW pe_int pe_int)) pa_nil))) (pa_cons (pe_op op_add (pe_op op_mulA (pe_op op_mod (pv 2) (pe_op op_add (pe_op op_powW pe_int pe_int) pe_int)) pe_int) (pe_op op_mod (pv 1) pe_int)) (pa_cons pe_int pa_nil)))))))), ?_⟩
  rw [show L2.start ["script", "k", "cell"] [.ref a, .int k] = [some (.ref a), some (.int k), none] from rfl]
  refine Tr.of ?_ l
  repeat walk_at "hz"
  repeat walk_at "hz"
  refine t_lenSc hS ?_
  repeat walk_at "hz"
  have G : ∀ c : Int, Gen 0 (.lst [.int (max 0 (c - 1000000000000000000)), .int (c % (1000000000000000000000000000000000000000000000000000000000000 + 7) * 64 + k % 64), .int 0]) := fun c => by
    have b1 := Int.emod_nonneg c (show (1000000000000000000000000000000000000000000000000000000000000 + 7 : Int) ≠ 0 by decide)
    have b2 := Int.emod_lt_of_pos c (show (0 : Int) < 1000000000000000000000000000000000000000000000000000000000000 + 7 by decide)
    exact ⟨_, _, _, rfl, by omega, by omega, by omega, by omega, by omega⟩
  refine t_iteD (fun c => ?_) fun c => ?_
  · repeat walk_at "hz"
    refine t_ixSc hS (atD_at h0 c) ?_
    repeat walk_at "hz"
    refine t_rI (pow_ok 5 (by decide) (by decide) (by decide) (by decide)) ?_
    rw [show (10 : Int) ^ (18 : Int).toNat = 1000000000000000000 by decide]
    repeat walk_at "hz"
    refine t_rI (pow_ok 5 (by decide) (by decide) (by decide) (by decide)) ?_
    rw [show (10 : Int) ^ (60 : Int).toNat = 1000000000000000000000000000000000000000000000000000000000000 by decide]
    repeat walk_at "hz"
    repeat walk_at "hz"
    exact q _ _ (G _)
  · repeat walk_at "hz"
    refine t_rI (pow_ok 5 (by decide) (by decide) (by decide) (by decide)) ?_
    rw [show (10 : Int) ^ (18 : Int).toNat = 1000000000000000000 by decide]
    repeat walk_at "hz"
    refine t_rI (pow_ok 5 (by decide) (by decide) (by decide) (by decide)) ?_
    rw [show (10 : Int) ^ (60 : Int).toNat = 1000000000000000000000000000000000000000000000000000000000000 by decide]
    repeat walk_at "hz"
    repeat walk_at "hz"
    exact q _ _ (G 0)
def sp_law_draw  : Sp := fun vs H Q E => ∃ (a : Addr) (c : Int) (m : Nat) (o : HO) (L : Lg), vs = [.ref a, .int c] ∧ Led H ((a, o) :: L) ∧ (Gen m o) ∧ (m ≤ 1000000000) ∧ (0 < c) ∧ (c < 2 ^ 200) ∧ ∀ (d : Int) (o' : HO), (0 ≤ d) → (d < c) → (Gen (m + 1) o') → Tr ((a, o') :: L) (fun H => Q (.int d) H)
theorem use_law_draw {L0  L : Lg} {Q : VK} {E : XK} {a : Addr} {c : Int} {m : Nat} {o : HO} (hp0 : Pick (a) (o) L0 L) (hs : Gen m o) (hm : m ≤ 1000000000) (h0 : 0 < c) (h1 : c < 2 ^ 200) (q : ∀ (d : Int) (o' : HO), (0 ≤ d) → (d < c) → (Gen (m + 1) o') → Tr ((a, o') :: L) (fun H => Q (.int d) H)) : Tr L0 fun H => sp_law_draw [.ref a, .int c] H Q E :=
  fun H l => ⟨a, c, m, o, L, rfl, l.pick hp0, hs, hm, h0, h1, q⟩

theorem ok_law_draw (D : Df K mg "_law_draw" s_law_draw) (B : Blt mg) : Ok P w K mg base CX0 1 "_law_draw" ["source", "limit"] sp_law_draw := by
  obtain ⟨f, fd, hm, F⟩ := D
  refine ⟨f, fd, hm, F.kp, F.binds (fun _ _ _ _ _ _ us hl => match us, hl with | [_, _], _ => rfl), FunOkG F sc_law_draw (fun vs H Q E h => ?_) (fun cdv A outer s H vs Q E hr h => ?_), F.lk⟩
  · obtain ⟨_, _, _, _, _, rfl, _⟩ := h; rfl
  obtain ⟨a, c, m, o, L, rfl, l, hs, hm, h0, h1, q⟩ := h
  refine ⟨_, PSs.nox (pss_cons (ps_if (pt_cmpR op_gt (pe_ix ix_list (pv 0) pe_int (fun _ _ => rfl)) pe_int (nomark _)) (pss_cons (ps_set (i := 2) sc_law_draw.nd rfl (.inl rfl) (pe_op op_mod (pe_ix ix_list (pv 0) pe_int (fun _ _ => rfl)) (pv 1)))
      (pss_cons (ps_asg (pe_op op_fdivW (pe_ix ix_list (pv 0) pe_int (fun _ _ => rfl)) (pv 1)) (pg_sub (pv 0) pe_int set_list))
      (pss_one (ps_ret (pv 2)))))
        pss_nil)
      (pss_cons (ps_asg (pe_op op_add (pe_ix ix_list (pv 0) pe_int (fun _ _ => rfl)) pe_int) (pg_sub (pv 0) pe_int set_list))
      (pss_cons (ps_set (i := 3) sc_law_draw.nd rfl (.inl rfl) (pe_op op_mod (pe_op op_powW (pe_op op_add (pe_op op_add (pe_ix ix_list (pv 0) pe_int (fun _ _ => rfl)) (pe_op op_mulA (pe_op op_mulA pe_int (pe_ix ix_list (pv 0) pe_int (fun _ _ => rfl))) (pe_ix ix_list (pv 0) pe_int (fun _ _ => rfl)))) pe_int) pe_int) pe_int))
      (pss_cons (ps_set (i := 3) sc_law_draw.nd rfl (.inl rfl) (pe_op op_mod (pe_op op_powW (pe_op op_add (pv 3) (pe_op op_mulA pe_int (pe_ix ix_list (pv 0) pe_int (fun _ _ => rfl)))) pe_int) pe_int))
      (pss_one (ps_ret (pe_op op_mod (pe_op op_fdivW (pv 3) pe_int) (pv 1)))))))), ?_⟩
  rw [show L2.start ["source", "limit", "digit", "mixed"] [.ref a, .int c] = [some (.ref a), some (.int c), none, none] from rfl]
  refine Tr.of ?_ l
  repeat walk_at "hz"
  obtain ⟨s0, s1, s2, rfl, g0, g1, g2, g3, g4⟩ := hs
  repeat walk_at "hz"
  have hc : c.natAbs < 2 ^ 200 := by omega
  refine t_iteD (fun h2 => ?_) fun h2 => ?_
  · repeat walk_at "hz"
    refine t_rI (div_ok 200 (by decide) h0 hc (by decide)) ?_
    repeat walk_at "hz"
    refine t_setL .head rfl ?_
    repeat walk_at "hz"
    exact q _ _ (Int.emod_nonneg _ (by omega)) (Int.emod_lt_of_pos _ h0) ⟨_, _, _, rfl, Int.ediv_nonneg g0 (by omega), g1, g2, g3, by omega⟩
  · repeat walk_at "hz"
    refine t_setL .head rfl ?_
    repeat walk_at "hz"
    have e1 : 0 ≤ (s2 + 1) * (s2 + 1) ∧ (s2 + 1) * (s2 + 1) ≤ (1000000000 + 1) * (1000000000 + 1) := ⟨Int.mul_nonneg (by omega) (by omega), Int.mul_le_mul (by omega) (by omega) (by omega) (by omega)⟩
    rw [Int.mul_assoc 40503]
    generalize (s2 + 1) * (s2 + 1) = z at e1 ⊢
    refine t_rI (pow_ok 402 (by decide) (by omega) (by decide) (by decide)) ?_
    repeat walk_at "hz"
    have b1 := Int.emod_nonneg ((s1 + 40503 * z + 11) ^ (3 : Int).toNat) (show (2305843009213693951 : Int) ≠ 0 by decide)
    have b2 := Int.emod_lt_of_pos ((s1 + 40503 * z + 11) ^ (3 : Int).toNat) (show (0 : Int) < 2305843009213693951 by decide)
    generalize (s1 + 40503 * z + 11) ^ (3 : Int).toNat % 2305843009213693951 = x at b1 b2 ⊢
    refine t_rI (pow_ok 70 (by decide) (by omega) (by decide) (by decide)) ?_
    repeat walk_at "hz"
    have b3 := Int.emod_nonneg ((x + 69621 * (s2 + 1)) ^ (3 : Int).toNat) (show (2305843009213693921 : Int) ≠ 0 by decide)
    have b4 := Int.emod_lt_of_pos ((x + 69621 * (s2 + 1)) ^ (3 : Int).toNat) (show (0 : Int) < 2305843009213693921 by decide)
    generalize (x + 69621 * (s2 + 1)) ^ (3 : Int).toNat % 2305843009213693921 = y at b3 b4 ⊢
    refine t_rI (div_ok 40 (by decide) (by decide) (by decide) (by decide)) ?_
    repeat walk_at "hz"
    exact q _ _ (Int.emod_nonneg _ (by omega)) (Int.emod_lt_of_pos _ h0) ⟨_, _, _, rfl, g0, g1, g2, by omega, by omega⟩

theorem deepS_rws : ∀ rs : List (List Int), PyData.depthAll (rs.map rwD) ≤ 1
  | [] => by simp [PyData.depthAll]
  | r :: rs => by
    have := deepS_rws rs
    have e : ∀ ns : List Int, PyData.depthAll (ns.map PyData.int) = 0 := fun ns => by
      induction ns with
      | nil => simp [PyData.depthAll]
      | cons n ns ih => simp [PyData.depthAll, PyData.depth, ih]
    simp only [List.map_cons, PyData.depthAll, rwD, PyData.depth, e]
    omega
theorem wide_int (i : Int) : wide (.int i) = true := by simp [wide]
theorem deep_rwsL (rs : List (List Int)) : (PyData.list (rs.map rwD)).depth ≤ 2 := by
  have := deepS_rws rs
  rw [PyData.depth]; omega
theorem deep_intsL (ns : List Int) : (PyData.list (ns.map PyData.int)).depth ≤ 1 := by
  have e : PyData.depthAll (ns.map PyData.int) = 0 := by
    induction ns with
    | nil => simp [PyData.depthAll]
    | cons n ns ih => simp [PyData.depthAll, PyData.depth, ih]
  rw [PyData.depth, e]; omega
theorem wideAll_rws : ∀ rs : List (List Int), (∀ r ∈ rs, r.length ≤ 100000) → wideAll (rs.map rwD) = true
  | [], _ => by simp only [List.map_nil, wideAll]
  | r :: rs, h => by
    simp only [List.map_cons, wideAll, wideAll_rws rs fun x hx => h x (.tail _ hx), rwD, wide_ints (h r (.head _)), Bool.and_self]
theorem wide_rwsL {rs : List (List Int)} (h0 : rs.length ≤ 100000) (h : ∀ r ∈ rs, r.length ≤ 100000) : wide (.list (rs.map rwD)) = true := by
  rw [wide, wideAll_rws rs h, List.length_map, decide_eq_true h0]; rfl
/-! ### the strict comparison, of equal data -/
def sp_same (n : Nat) : Sp := fun vs H Q _ => ∃ (x y : V) (d : PyData) (L : Lg), vs = [x, y] ∧ Led H L ∧ Dt L x d ∧ Dt L y d ∧ d.depth ≤ n ∧ wide d = true ∧ Tr L (fun H => Q (.bl true) H)
theorem use_same {n : Nat} {L : Lg} {Q : VK} {E : XK} {x y : V} {d : PyData} (h1 : Dt L x d) (h2 : Dt L y d) (hd : d.depth ≤ n) (hw : wide d = true) (q : Tr L fun H => Q (.bl true) H) : Tr L fun H => sp_same n [x, y] H Q E :=
  fun H l => ⟨x, y, d, L, rfl, l, h1, h2, hd, hw, q⟩
def sp_sameP : Nat → Sp
  | 0 => spNo
  | n + 1 => sp_same n
theorem use_sameP {n : Nat} {L : Lg} {Q : VK} {E : XK} {x y : V} {d : PyData} (h1 : Dt L x d) (h2 : Dt L y d) (hd : d.depth < n) (hw : wide d = true) (q : Tr L fun H => Q (.bl true) H) : Tr L fun H => sp_sameP n [x, y] H Q E := by
  cases n with
  | zero => omega
  | succ n => exact use_same (E := E) h1 h2 (by omega) hw q
theorem same_step (D : Df K mg "_law_same" s_law_same) (B : Blt mg) (n : Nat) (k__law_same : Ok P w K mg base CX0 n "_law_same" ["result", "expected"] (sp_sameP n)) : Ok P w K mg base CX0 (n + 1) "_law_same" ["result", "expected"] (sp_same n) := by
  obtain ⟨f, fd, hm, F⟩ := D
  refine ⟨f, fd, hm, F.kp, F.binds (fun _ _ _ _ _ _ us hl => match us, hl with | [_, _], _ => rfl), FunOkG F sc_law_same (fun vs H Q E h => ?_) (fun cdv A outer s H vs Q E hr h => ?_), F.lk⟩
  · obtain ⟨x, y, d, L, rfl, _⟩ := h; rfl
  · obtain ⟨x, y, d, L, rfl, l, h1, h2, hd, hw, q⟩ := h
    refine ⟨_, PSs.nox (pss_cons (ps_if (pt_val (pe_callB c_isT rfl B.isinstance_ boot_isinstance (pa_cons (pv 1) (pa_cons (pe_tup (pa_cons (pe_ty B.list_ boot_list) (pa_cons (pe_ty B.tuple_ boot_tuple) pa_nil))) pa_nil)))) (pss_cons (ps_if (PW.pt (pw_or (pt_cmpR op_ne (pe_callB c_is rfl B.isinstance_ boot_isinstance (pa_cons (pv 0) (pa_cons (pe_ty B.list_ boot_list) pa_nil))) (pe_callB c_is rfl B.isinstance_ boot_isinstance (pa_cons (pv 1) (pa_cons (pe_ty B.list_ boot_list) pa_nil))) (nomark _)) (pw_or1 (pt_not (pt_val (pe_callB c_isT rfl B.isinstance_ boot_isinstance (pa_cons (pv 0) (pa_cons (pe_tup (pa_cons (pe_ty B.list_ boot_list) (pa_cons (pe_ty B.tuple_ boot_tuple) pa_nil))) pa_nil)))))))) (pss_one (ps_ret pe_bl))
        pss_nil)
      (pss_one (ps_ret (pe_and (pe_cmpR op_eq (pe_callB c_len rfl B.len_ boot_len (pa_cons (pv 0) pa_nil)) (pe_callB c_len rfl B.len_ boot_len (pa_cons (pv 1) pa_nil)) (nomark _)) (pe_one (pe_callB (cr_all rfl) rfl B.all_ boot_all (pa_cons (pe_lc (own := [("one", 2), ("two", 3)]) (g := gTup _ 2 (gCons (gName 2) (gCons (gName 3) (gNil)))) (by rfl) sc_law_same.nd (pi_zipA (by rfl) B.zip_ (pa_cons (pv 0) (pa_cons (pv 1) pa_nil))) (blkOk_by (own := [("one", 2), ("two", 3)]) (N := ["result", "expected", "one", "two"]) (sc := defScope s_law_same) (by decide +kernel)) (fun _ _ _ _ _ => (pg_tup rfl (pgs_cons (pg_name (i := 2) sc_law_same.nd rfl (.inl rfl)) (pgs_cons (pg_name (i := 3) sc_law_same.nd rfl (.inl rfl)) pgs_nil)))) (fun _ _ _ _ _ => pts_nil) (fun _ _ _ _ _ => (pe_callG k__law_same (hr.mono (by omega)) pas0 (pa_cons (pv 2) (pa_cons (pv 3) pa_nil))))) pa_nil)))))))
        pss_nil)
      (pss_cons (ps_if (PW.pt (pw_or (pt_cmpR op_isN1 (pv 1) pe_non (nomark _)) (pw_or1 (pt_cmpR op_isN1 (pv 0) pe_non (nomark _))))) (pss_one (ps_ret (pe_and (pe_cmpR op_isN1 (pv 1) pe_non (nomark _)) (pe_one (pe_cmpR op_isN1 (pv 0) pe_non (nomark _))))))
        pss_nil)
      (pss_cons (ps_if (PW.pt (pw_or (pt_val (pe_callB c_is rfl B.isinstance_ boot_isinstance (pa_cons (pv 1) (pa_cons (pe_ty B.bool_ boot_bool) pa_nil)))) (pw_or1 (pt_val (pe_callB c_is rfl B.isinstance_ boot_isinstance (pa_cons (pv 0) (pa_cons (pe_ty B.bool_ boot_bool) pa_nil))))))) (pss_one (ps_ret (pe_and (pe_callB c_is rfl B.isinstance_ boot_isinstance (pa_cons (pv 1) (pa_cons (pe_ty B.bool_ boot_bool) pa_nil))) (pe_and (pe_callB c_is rfl B.isinstance_ boot_isinstance (pa_cons (pv 0) (pa_cons (pe_ty B.bool_ boot_bool) pa_nil))) (pe_one (pe_cmpR op_eq (pv 0) (pv 1) (nomark _)))))))
        pss_nil)
      (pss_one (ps_ret (pe_and (pe_cmpR op_eq (pe_callB c_is rfl B.isinstance_ boot_isinstance (pa_cons (pv 0) (pa_cons (pe_ty B.str_ boot_str) pa_nil))) (pe_callB c_is rfl B.isinstance_ boot_isinstance (pa_cons (pv 1) (pa_cons (pe_ty B.str_ boot_str) pa_nil))) (nomark _)) (pe_one (pe_cmpR op_eq (pv 0) (pv 1) (nomark _))))))))), ?_⟩
    rw [show L2.start ["result", "expected", "one", "two"] [x, y] = [some x, some y, none, none] from rfl]
    refine Tr.of (L := L) ?_ l
    repeat walk_at "hz"
    rename_i tp1
    have up : ∀ {M : Lg} {z : V} {T : String} (p : Addr × HO), HasTy M z T → HasTy (p :: M) z T := fun p h => h.mono fun _ h => .tail _ h
    cases h2 with
    | @lst b ys ds mb h2 =>
      cases h1 with
      | @lst a xs _ ma h1 =>
        rw [wide, Bool.and_eq_true, decide_eq_true_eq] at hw
        obtain ⟨Ra, pa⟩ := Pick.of_mem ma
        obtain ⟨Rb, pb⟩ := Pick.of_mem mb
        have la := h1.len
        have lb := h2.len
        refine t_isTs (Cs := ["list", "tuple"]) .head (up _ (.lst mb)) (by decide) ?_
        repeat walk_at "hz"
        refine t_is (up _ (.lst ma)) (by decide) ?_
        repeat walk_at "hz"
        refine t_is (up _ (.lst mb)) (by decide) ?_
        repeat walk_at "hz"
        refine t_isTs (Cs := ["list", "tuple"]) .head (up _ (up _ (.lst ma))) (by decide) ?_
        repeat walk_at "hz"
        refine t_lcMap wk_zip (by rfl) ((List.replicate ds.length true).map V.bl) (by simp [la, lb]) (fun x => ⟨⟨_, .tail (.tail (.tail pa))⟩, ⟨_, .tail (.tail (.tail pb))⟩⟩) ?_ ?_
        · rintro D i v L' hi ⟨T, x, y, rfl, hx, hy, rfl⟩
          obtain ⟨d1, e1, hx1⟩ := h1.get hx
          obtain ⟨d2, e2, hy1⟩ := h2.get hy
          obtain rfl : d1 = d2 := Option.some.inj (e1.symm.trans e2)
          rw [List.cons_append, List.nil_append]
          repeat walk_at "hz"
          have dm := depthAll_le (List.mem_of_getElem? e1)
          have dd : (PyData.list ds).depth = PyData.depthAll ds + 1 := by rw [PyData.depth]
          refine use_sameP (hx1.mono fun _ h => by simp [h]) (hy1.mono fun _ h => by simp [h]) (by omega) (wideAll_mem hw.2 (List.mem_of_getElem? e1)) ?_
          refine t_lcMp (by walk_at "pk") ?_ (by rw [List.length_map, List.length_replicate]; exact Nat.le_trans hw.1 (by decide)) (by walk_at "sb")
          rw [List.map_replicate, List.getElem?_replicate, if_pos (by rw [← la]; exact (List.getElem?_eq_some_iff.mp hx).1)]
        · intro D
          repeat walk_at "hz"
          refine t_all .head ?_
          rw [show (List.replicate ds.length true).all id = true by simp]
          exact q.sub (by walk_at "sb")
    | @tup b ys ds mb h2 =>
      cases h1 with
      | @tup a xs _ ma h1 =>
        rw [wide, Bool.and_eq_true, decide_eq_true_eq] at hw
        obtain ⟨Ra, pa⟩ := Pick.of_mem ma
        obtain ⟨Rb, pb⟩ := Pick.of_mem mb
        have la := h1.len
        have lb := h2.len
        refine t_isTs (Cs := ["list", "tuple"]) .head (up _ (.tup mb)) (by decide) ?_
        repeat walk_at "hz"
        refine t_is (up _ (.tup ma)) (by decide) ?_
        repeat walk_at "hz"
        refine t_is (up _ (.tup mb)) (by decide) ?_
        repeat walk_at "hz"
        refine t_isTs (Cs := ["list", "tuple"]) .head (up _ (up _ (.tup ma))) (by decide) ?_
        repeat walk_at "hz"
        refine t_itZT (.tail (.tail pa)) (.tail (.tail pb)) ?_
        refine t_lcMap wk_zipT (by rfl) ((List.replicate ds.length true).map V.bl) (by simp [la, lb]) (fun x => ⟨⟨_, .tail (.tail (.tail pa))⟩, ⟨_, .tail (.tail (.tail pb))⟩⟩) ?_ ?_
        · rintro D i v L' hi ⟨T, x, y, rfl, hx, hy, rfl⟩
          obtain ⟨d1, e1, hx1⟩ := h1.get hx
          obtain ⟨d2, e2, hy1⟩ := h2.get hy
          obtain rfl : d1 = d2 := Option.some.inj (e1.symm.trans e2)
          rw [List.cons_append, List.nil_append]
          repeat walk_at "hz"
          have dm := depthAll_le (List.mem_of_getElem? e1)
          have dd : (PyData.tuple ds).depth = PyData.depthAll ds + 1 := by rw [PyData.depth]
          refine use_sameP (hx1.mono fun _ h => by simp [h]) (hy1.mono fun _ h => by simp [h]) (by omega) (wideAll_mem hw.2 (List.mem_of_getElem? e1)) ?_
          refine t_lcMp (by walk_at "pk") ?_ (by rw [List.length_map, List.length_replicate]; exact Nat.le_trans hw.1 (by decide)) (by walk_at "sb")
          rw [List.map_replicate, List.getElem?_replicate, if_pos (by rw [← la]; exact (List.getElem?_eq_some_iff.mp hx).1)]
        · intro D
          repeat walk_at "hz"
          refine t_all .head ?_
          rw [show (List.replicate ds.length true).all id = true by simp]
          exact q.sub (by walk_at "sb")
    | non =>
      cases h1
      refine t_isTs (Cs := ["list", "tuple"]) .head .non (by decide) ?_
      repeat walk_at "hz"
      repeat (refine t_is (up _ .non) (by decide) ?_; repeat walk_at "hz")
      exact q.sub (by walk_at "sb")
    | bl b =>
      cases h1
      refine t_isTs (Cs := ["list", "tuple"]) .head (.bl b) (by decide) ?_
      repeat walk_at "hz"
      repeat (refine t_is (up _ (.bl b)) (by decide) ?_; repeat walk_at "hz")
      rw [beq_self_eq_true]
      exact q.sub (by walk_at "sb")
    | str z =>
      cases h1
      refine t_isTs (Cs := ["list", "tuple"]) .head (.str z) (by decide) ?_
      repeat walk_at "hz"
      repeat (refine t_is (up _ (.str z)) (by decide) ?_; repeat walk_at "hz")
      rw [decide_eq_true rfl]
      exact q.sub (by walk_at "sb")
    | int i =>
      cases h1
      refine t_isTs (Cs := ["list", "tuple"]) .head (.int i) (by decide) ?_
      repeat walk_at "hz"
      repeat (refine t_is (up _ (.int i)) (by decide) ?_; repeat walk_at "hz")
      rw [decide_eq_true rfl]
      exact q.sub (by walk_at "sb")
theorem okn_law_same (D : Df K mg "_law_same" s_law_same) (B : Blt mg) : ∀ n : Nat, Ok P w K mg base CX0 (n + 1) "_law_same" ["result", "expected"] (sp_same n)
  | 0 => same_step D B 0 (okNo D fun fd f F => F.binds (fun _ _ _ _ _ _ us hl => match us, hl with | [_, _], _ => rfl))
  | n + 1 => same_step D B (n + 1) (okn_law_same D B n)
theorem ok_law_same (D : Df K mg "_law_same" s_law_same) (B : Blt mg) : Ok P w K mg base CX0 3 "_law_same" ["result", "expected"] (sp_same 2) := okn_law_same D B 2

theorem gro_mem (top : Nat) : ∀ (r d : Nat) (l : List Int), chainI (d : Int) l → l.length = r → (∀ x ∈ l, x ≤ top) → l ∈ gro top r d
  | 0, d, l, _, hl, _ => by rw [gro, List.length_eq_zero_iff.mp hl]; exact .head _
  | r + 1, d, [], _, hl, _ => by simp at hl
  | r + 1, d, e :: l, hc, hl, hb => by
    have h1 : 0 ≤ e := hc.1
    have h2 : e ≤ (d : Int) + 1 := hc.2.1
    have h3 := hb e (.head _)
    obtain ⟨e', rfl⟩ := Int.eq_ofNat_of_zero_le h1
    rw [gro]
    exact List.mem_flatMap.mpr ⟨e', List.mem_range.mpr (by omega), List.mem_map.mpr ⟨l, gro_mem top r e' l hc.2.2 (by simpa using hl) fun x hx => hb x (.tail _ hx), rfl⟩⟩
/-- the index of an outline, and back -/
theorem rk_back {ls : List Int} (ho : Outline (0 :: ls)) {b : Int} (hb : 200 ≤ b) : ∃ j : Nat, rk (min b ls.length).toNat ls.length ls = j ∧ (gro (min b ls.length).toNat ls.length 0)[j]? = some ls := by
  have hl := ho.len
  rw [List.length_cons] at hl
  have m : ls ∈ gro (min b ls.length).toNat ls.length 0 := gro_mem _ _ _ _ ho.chain.2.2 rfl fun x hx => by
    obtain ⟨i, hi⟩ := List.mem_iff_getElem?.mp hx
    have := ho.bound (i := i + 1) (d := x) (by simpa using hi)
    have := (List.getElem?_eq_some_iff.mp hi).1
    omega
  obtain ⟨j, hj⟩ := List.mem_iff_getElem?.mp m
  exact ⟨j, (rk_at _ _ _ _ _ hj).1, hj⟩
theorem Outline.snoc {ns : List Int} {d : Int} (h : Outline ns) (hl : ns.length < 200) (h0 : 0 ≤ d) (h1 : d ≤ lastD (-1) ns + 1) : Outline (ns ++ [d]) :=
  outline_iff.mpr ⟨by simp, by simp; omega, (chainI_append _ _ _).mpr ⟨h.chain, h0, h1, trivial⟩⟩
def sp_law_made (K : PySem.W.Frag) : Sp := fun vs H Q E => ∃ (a z : Addr) (zs : List Int) (o : HO) (m : Nat) (most bound : Int) (L : Lg), vs = [.ref a, .ref z, .int most, .int bound] ∧ Led H ((a, o) :: L) ∧ (Scr K L z zs) ∧ (Gen m o) ∧ (m ≤ 1000000) ∧ (8 ≤ most) ∧ (most ≤ 60) ∧ (0 ≤ bound) ∧ (bound ≤ 60) ∧ ∀ (p : Addr) (ns : List Int) (o' : HO), (Outline ns) → (ns.length ≤ 60) → (Gen (m + 2000) o') → Tr ((p, .lst (ns.map V.int)) :: (a, o') :: L) (fun H => Q (.ref p) H)
theorem use_law_made {L0  L : Lg} {Q : VK} {E : XK} {a z : Addr} {zs : List Int} {o : HO} {m : Nat} {most bound : Int} (hp0 : Pick (a) (o) L0 L) (hS : Scr K L z zs) (hs : Gen m o) (hm : m ≤ 1000000) (h0 : 8 ≤ most) (h1 : most ≤ 60) (h2 : 0 ≤ bound) (h3 : bound ≤ 60) (q : ∀ (p : Addr) (ns : List Int) (o' : HO), (Outline ns) → (ns.length ≤ 60) → (Gen (m + 2000) o') → Tr ((p, .lst (ns.map V.int)) :: (a, o') :: L) (fun H => Q (.ref p) H)) : Tr L0 fun H => sp_law_made K [.ref a, .ref z, .int most, .int bound] H Q E :=
  fun H l => ⟨a, z, zs, o, m, most, bound, L, rfl, l.pick hp0, hS, hs, hm, h0, h1, h2, h3, q⟩

theorem ok_law_made (D : Df K mg "_law_made" s_law_made) (B : Blt mg) (k__law_draw : Ok P w K mg base CX0 1 "_law_draw" ["source", "limit"] sp_law_draw) : Ok P w K mg base CX0 2 "_law_made" ["source", "script", "most", "bound"] (sp_law_made K) := by
  obtain ⟨f, fd, hm, F⟩ := D
  refine ⟨f, fd, hm, F.kp, F.binds (fun _ _ _ _ _ _ us hl => match us, hl with | [_, _, _, _], _ => rfl), FunOkG F sc_law_made (fun vs H Q E h => ?_) (fun cdv A outer s H vs Q E hr h => ?_), F.lk⟩
  · obtain ⟨_, _, _, _, _, _, _, _, rfl, _⟩ := h; rfl
  obtain ⟨a, z, zs, o, m, most, bound, L, rfl, l, hS, hs, hm, h0, h1, h2, h3, q⟩ := h
  refine ⟨_, PSs.nox (pss_cons (ps_set (i := 4) sc_law_made.nd rfl (.inl rfl) (pe_ix ix_list (pe_lst (pa_cons (pe_op op_add pe_int (pe_callG k__law_draw (hr.mono (by omega)) pas0 (pa_cons (pv 0) (pa_cons (pe_callB (c_min2 rfl) rfl B.min_ boot_min (pa_cons (pv 2) (pa_cons pe_int pa_nil))) pa_nil)))) (pa_cons (pe_op op_add pe_int (pe_callG k__law_draw (hr.mono (by omega)) pas0 (pa_cons (pv 0) (pa_cons (pv 2) pa_nil)))) (pa_cons (pv 2) pa_nil)))) (pe_callG k__law_draw (hr.mono (by omega)) pas0 (pa_cons (pv 0) (pa_cons pe_int pa_nil))) (fun _ _ => rfl)))
      (pss_cons (ps_set (i := 5) sc_law_made.nd rfl (.inl rfl) (pe_callG k__law_draw (hr.mono (by omega)) pas0 (pa_cons (pv 0) (pa_cons pe_int pa_nil))))
      (pss_cons (ps_set (i := 6) sc_law_made.nd rfl (.inl rfl) (pe_lst (pa_cons pe_int pa_nil)))
      (pss_cons (ps_while PassesOwn.never (pt_cmpR op_lt (pe_callB c_len rfl B.len_ boot_len (pa_cons (pv 6) pa_nil)) (pe_ifExp (pt_cmpR (op_eqD hr.rm.units) (pv 1) (pe_lst pa_nil) (nomark _)) (pe_callB (c_min2 rfl) rfl B.min_ boot_min (pa_cons (pv 4) (pa_cons pe_int pa_nil))) (pv 4)) (nomark _))
        (pss_cons (ps_set (i := 7) sc_law_made.nd rfl (.inl rfl) (pe_callB (c_min2 rfl) rfl B.min_ boot_min (pa_cons (pe_op op_add (pe_ix ix_list (pv 6) (pe_un un_neg pe_int) (fun _ _ => rfl)) pe_int) (pa_cons (pv 3) pa_nil))))
      (pss_cons (ps_set (i := 8) sc_law_made.nd rfl (.inl rfl) (pe_lst (pa_cons (pe_callG k__law_draw (hr.mono (by omega)) pas0 (pa_cons (pv 0) (pa_cons (pe_op op_add (pv 7) pe_int) pa_nil))) (pa_cons (pv 7) (pa_cons (pe_callB (c_max2 rfl) rfl B.max_ boot_max (pa_cons pe_int (pa_cons (pe_op op_sub (pv 7) (pe_callG k__law_draw (hr.mono (by omega)) pas0 (pa_cons (pv 0) (pa_cons pe_int pa_nil)))) pa_nil))) (pa_cons (pe_ix ix_list (pe_lst (pa_cons pe_int (pa_cons (pv 7) pa_nil))) (pe_callG k__law_draw (hr.mono (by omega)) pas0 (pa_cons (pv 0) (pa_cons pe_int pa_nil))) (fun _ _ => rfl)) pa_nil))))))
      (pss_one (ps_expr (pe_bm PySem.F.plainAttrs_list PySem.F.slot_list_append PySem.F.type_list_append mt_append (pv 6) (pa_cons (pe_ix ix_list (pe_op op_cat (pv 8) (pe_lst (pa_cons pe_int pa_nil))) (pv 5) (fun _ _ => rfl)) pa_nil)))))))
      (pss_one (ps_ret (pv 6))))))), ?_⟩
  rw [show L2.start ["source", "script", "most", "bound", "size", "style", "made", "top", "some"] [.ref a, .ref z, .int most, .int bound] = [some (.ref a), some (.ref z), some (.int most), some (.int bound), none, none, none, none, none] from rfl]
  refine Tr.of ?_ l
  repeat walk_at "hz"
  repeat walk_at "hz"
  refine use_law_draw (by walk_at "pk") hs (by omega) (by omega) (by omega) fun d1 o_d1 d1l d1h hs => ?_
  repeat walk_at "hz"
  refine use_law_draw (by walk_at "pk") hs (by omega) (by omega) (by omega) fun d2 o_d2 d2l d2h hs => ?_
  repeat walk_at "hz"
  refine use_law_draw (by walk_at "pk") hs (by omega) (by omega) (by omega) fun d3 o_d3 d3l d3h hs => ?_
  repeat walk_at "hz"
  obtain ⟨size, size_at, size_mem, -⟩ := at_mem (ns := [1 + d1, 1 + d2, most]) d3l (by simpa using d3h)
  have sizeb : 1 ≤ size ∧ size ≤ 60 := by
    simp only [List.mem_cons, List.not_mem_nil, or_false] at size_mem
    omega
  refine t_ixL (by walk_at "pk") size_at ?_
  repeat walk_at "hz"
  refine use_law_draw (by walk_at "pk") hs (by omega) (by omega) (by omega) fun style o_style stylel styleh hs => ?_
  repeat walk_at "hz"
  rename_i pm
  refine t_whG (fun ((ns, o, u17, u18) : (List Int) × HO × Option V × Option V) => [some (.ref a), some (.ref z), some (.int most), some (.int bound), some (.int size), some (.int style), some (.ref pm), u17, u18]) (fun ((ns, o, u17, u18) : (List Int) × HO × Option V × Option V) => (pm, .lst (ns.map V.int)) :: (a, o) :: L) (fun ((ns, o, u17, u18) : (List Int) × HO × Option V × Option V) => Outline ns ∧ ns.length ≤ 60 ∧ Gen (m + 4 + 5 * ns.length) o) (fun ((ns, o, u17, u18) : (List Int) × HO × Option V × Option V) => (60 - ns.length)) ⟨([0], o_style, _, _), ⟨rfl, by decide, hs.le (by simp)⟩, rfl, (by walk_at "sb")⟩ ?_
  clear hs
  rintro ⟨ns, o, u17, u18⟩ ⟨ho, hn, hs⟩
  try dsimp only at ho hn hs ⊢
  have hl := ho.len
  have lb := lastD_bound (-1) ns ho.chain hl.1
  repeat walk_at "hz"
  rename_i e0
  refine t_eqSc (zs := []) hS.cons.cons.cons (by walk_at "mb") ?_
  repeat walk_at "hz"
  refine t_ifV (α := Int) (fun y => .int y) (fun _ => (pm, .lst (ns.map V.int)) :: (a, o) :: L) (fun y => 1 ≤ y ∧ y ≤ 60) (fun h Q j => ?_) (fun h Q j => ?_) ?_
  · repeat walk_at "hz"
    exact j _ (by omega) _ (by walk_at "sb")
  · repeat walk_at "hz"
    exact j _ (by omega) _ (by walk_at "sb")
  rintro lim ⟨l0, l1⟩
  repeat walk_at "hz"
  refine t_whB (fun c => ?_) fun c => ?_
  · repeat walk_at "hz"
    refine t_ixL (by walk_at "pk") (at_lastD (-1) hl.1) ?_
    repeat walk_at "hz"
    obtain ⟨top, htop⟩ : ∃ top, top = min (lastD (-1) ns + 1) bound := ⟨_, rfl⟩
    rw [← htop]
    refine use_law_draw (by walk_at "pk") hs (by omega) (by omega) (by omega) fun e1 o_e1 e1l e1h hs => ?_
    repeat walk_at "hz"
    refine use_law_draw (by walk_at "pk") hs (by omega) (by omega) (by omega) fun e2 o_e2 e2l e2h hs => ?_
    repeat walk_at "hz"
    refine use_law_draw (by walk_at "pk") hs (by omega) (by omega) (by omega) fun e3 o_e3 e3l e3h hs => ?_
    repeat walk_at "hz"
    obtain ⟨v3, v3_at, v3_mem, -⟩ := at_mem (ns := [0, top]) e3l (by simpa using e3h)
    have v3b : 0 ≤ v3 ∧ v3 ≤ top := by
      simp only [List.mem_cons, List.not_mem_nil, or_false] at v3_mem
      omega
    refine t_ixL (by walk_at "pk") v3_at ?_
    repeat walk_at "hz"
    rename_i p7 p8 p9
    obtain ⟨v, v_at, v_mem, -⟩ := at_mem (ns := [e1, top, max 0 (top - e2), v3, 0]) stylel (by simpa using styleh)
    have vb : 0 ≤ v ∧ v ≤ top := by
      simp only [List.mem_cons, List.not_mem_nil, or_false] at v_mem
      omega
    refine t_ixL .head v_at ?_
    repeat walk_at "hz"
    have sl : (ns ++ [v]).length = ns.length + 1 := by simp
    refine t_whl (ns ++ [v], o_e3, _, _) ⟨ho.snoc (by omega) vb.1 (by omega), by simp; omega, hs.le (by simp; omega)⟩ (by (try dsimp only); omega) rfl (by walk_at "sb")
  · repeat walk_at "hz"
    exact (q pm ns o ho hn (hs.le (by omega))).sub (by walk_at "sb")
def sp_law_height  : Sp := fun vs H Q E => ∃ (a b : Addr) (ns : List Int) (o : HO) (m : Nat) (L : Lg), vs = [.ref a, .ref b] ∧ Led H ((a, o) :: L) ∧ ((b, HO.lst (ns.map V.int)) ∈ L) ∧ (Outline ns) ∧ (ns.length ≤ 60) ∧ (Gen m o) ∧ (m ≤ 1000000) ∧ ∀ (h : Int) (o' : HO), (1 ≤ h) → (h ≤ 400) → (∀ k : Int, 0 ≤ k → k < ns.length → atD ns k < h) → (Gen (m + 4) o') → Tr ((a, o') :: L) (fun H => Q (.int h) H)
theorem use_law_height {L0  L : Lg} {Q : VK} {E : XK} {a b : Addr} {ns : List Int} {o : HO} {m : Nat} (hp0 : Pick (a) (o) L0 L) (hb : (b, HO.lst (ns.map V.int)) ∈ L) (ho : Outline ns) (hn : ns.length ≤ 60) (hs : Gen m o) (hm : m ≤ 1000000) (q : ∀ (h : Int) (o' : HO), (1 ≤ h) → (h ≤ 400) → (∀ k : Int, 0 ≤ k → k < ns.length → atD ns k < h) → (Gen (m + 4) o') → Tr ((a, o') :: L) (fun H => Q (.int h) H)) : Tr L0 fun H => sp_law_height [.ref a, .ref b] H Q E :=
  fun H l => ⟨a, b, ns, o, m, L, rfl, l.pick hp0, hb, ho, hn, hs, hm, q⟩

theorem ok_law_height (D : Df K mg "_law_height" s_law_height) (B : Blt mg) (k__law_draw : Ok P w K mg base CX0 1 "_law_draw" ["source", "limit"] sp_law_draw) : Ok P w K mg base CX0 2 "_law_height" ["source", "made"] sp_law_height := by
  obtain ⟨f, fd, hm, F⟩ := D
  refine ⟨f, fd, hm, F.kp, F.binds (fun _ _ _ _ _ _ us hl => match us, hl with | [_, _], _ => rfl), FunOkG F sc_law_height (fun vs H Q E h => ?_) (fun cdv A outer s H vs Q E hr h => ?_), F.lk⟩
  · obtain ⟨_, _, _, _, _, _, rfl, _⟩ := h; rfl
  obtain ⟨a, b, ns, o, m, L, rfl, l, hb, ho, hn, hs, hm, q⟩ := h
  refine ⟨_, PSs.nox (pss_cons (ps_set (i := 2) sc_law_height.nd rfl (.inl rfl) (pe_op op_add (pe_callB (cr_max rfl) rfl B.max_ boot_max (pa_cons (pv 1) pa_nil)) pe_int))
      (pss_cons (ps_set (i := 3) sc_law_height.nd rfl (.inl rfl) (pe_lst (pa_cons pe_int (pa_cons (pe_callG k__law_draw (hr.mono (by omega)) pas0 (pa_cons (pv 0) (pa_cons pe_int pa_nil))) (pa_cons (pe_callG k__law_draw (hr.mono (by omega)) pas0 (pa_cons (pv 0) (pa_cons pe_int pa_nil))) (pa_cons (pe_callG k__law_draw (hr.mono (by omega)) pas0 (pa_cons (pv 0) (pa_cons (pe_op op_sub pe_int (pv 2)) pa_nil))) pa_nil))))))
      (pss_one (ps_ret (pe_op op_add (pv 2) (pe_ix ix_list (pv 3) (pe_callG k__law_draw (hr.mono (by omega)) pas0 (pa_cons (pv 0) (pa_cons pe_int pa_nil))) (fun _ _ => rfl))))))), ?_⟩
  rw [show L2.start ["source", "made", "least", "more"] [.ref a, .ref b] = [some (.ref a), some (.ref b), none, none] from rfl]
  refine Tr.of ?_ l
  obtain ⟨R_hb, P_hb⟩ := Pick.of_mem hb
  repeat walk_at "hz"
  have hl := ho.len
  refine t_maxL (by walk_at "pk") (by omega) fun mx m1 m2 => ?_
  have mb : 0 ≤ mx ∧ mx ≤ 60 := by
    obtain ⟨i, hi⟩ := List.mem_iff_getElem?.mp m1
    have := ho.bound hi
    have := (List.getElem?_eq_some_iff.mp hi).1
    omega
  have mk : ∀ k : Int, 0 ≤ k → k < ns.length → atD ns k ≤ mx := fun k k0 k1 => m2 _ (atD_mem k0 k1)
  repeat walk_at "hz"
  refine use_law_draw (by walk_at "pk") hs (by omega) (by omega) (by omega) fun d1 o_d1 d1l d1h hs => ?_
  repeat walk_at "hz"
  refine use_law_draw (by walk_at "pk") hs (by omega) (by omega) (by omega) fun d2 o_d2 d2l d2h hs => ?_
  repeat walk_at "hz"
  refine use_law_draw (by walk_at "pk") hs (by omega) (by omega) (by omega) fun d3 o_d3 d3l d3h hs => ?_
  repeat walk_at "hz"
  refine use_law_draw (by walk_at "pk") hs (by omega) (by omega) (by omega) fun d4 o_d4 d4l d4h hs => ?_
  repeat walk_at "hz"
  obtain ⟨v, v_at, v_mem, -⟩ := at_mem (ns := [0, d1, d2, d3]) d4l (by simpa using d4h)
  have vb : 0 ≤ v ∧ v ≤ 400 - (mx + 1) := by
    simp only [List.mem_cons, List.not_mem_nil, or_false] at v_mem
    omega
  refine t_ixL (by walk_at "pk") v_at ?_
  repeat walk_at "hz"
  exact (q (mx + 1 + v) o_d4 (by omega) (by omega) (fun k k0 k1 => by have := mk k k0 k1; omega) hs).sub (by walk_at "sb")

theorem jF_pos {ns : List Int} {h : Nat} (hd : ∀ i : Nat, i < ns.length → atD ns i < h) : 1 ≤ wf ns h (jF ns h) 0 := by
  have least : ∀ k : Nat, (∃ j, j ≤ k ∧ wf ns h j 0 ≠ 0) → ∃ j, j ≤ k ∧ wf ns h j 0 ≠ 0 ∧ ∀ i, i < j → wf ns h i 0 = 0 := by
    intro k
    induction k with
    | zero =>
      rintro ⟨j, hj, h0⟩
      exact ⟨j, hj, h0, fun i hi => by omega⟩
    | succ k ih =>
      rintro ⟨j, hj, h0⟩
      by_cases c : ∃ j, j ≤ k ∧ wf ns h j 0 ≠ 0
      · obtain ⟨j2, a, b⟩ := ih c
        exact ⟨j2, by omega, b⟩
      · refine ⟨j, hj, h0, fun i hi => ?_⟩
        refine Classical.byContradiction fun e => c ⟨i, by omega, e⟩
  have w := wf_way hd (ns.length - h) (Nat.le_refl _)
  rw [Nat.sub_self] at w
  obtain ⟨j, a, b, c⟩ := least (ns.length - h) ⟨_, Nat.le_refl _, by omega⟩
  rw [jF_eq (by omega) b c]
  have := wf_pos ns h j 0
  omega
def sp_law_asked (C_InvalidNumberError : Addr) : Sp := fun vs H Q E => ∃ (a : Addr) (ls : List Int) (h i : Int) (L : Lg), vs = [.ref a, .int h, .int i] ∧ Led H (L) ∧ ((a, HO.lst ((0 :: ls).map V.int)) ∈ L) ∧ (Outline (0 :: ls)) ∧ (1 ≤ h) ∧ (h ≤ 400) ∧ (∀ k : Int, 0 ≤ k → k < (0 :: ls).length → atD (0 :: ls) k < h) ∧ (idxOk (cntO ((ls.length : Int) + 1) 200) (.int i) = true) ∧ ∀ (p A B : Addr) (ds l : List Int), ((gr (0 :: ls) h.toNat (jF (0 :: ls) h.toNat) 0)[0]? = some ds) → ((gro (min 200 ls.length) ls.length 0)[i.toNat]? = some l) → Tr ((p, .lst [.int (wf (0 :: ls) h.toNat (jF (0 :: ls) h.toNat) 0), .ref A, .int 0, .int (cntO ((ls.length : Int) + 1) 200), .ref B, .int (rk (min 200 ls.length) ls.length ls)]) :: (A, .lst ((0 :: ds).map V.int)) :: (B, .lst ((0 :: l).map V.int)) :: L) (fun H => Q (.ref p) H)
theorem use_law_asked {L : Lg} {Q : VK} {E : XK} {a : Addr} {ls : List Int} {h i : Int} (hm : (a, HO.lst ((0 :: ls).map V.int)) ∈ L) (ho : Outline (0 :: ls)) (h0 : 1 ≤ h) (h1 : h ≤ 400) (hd : ∀ k : Int, 0 ≤ k → k < (0 :: ls).length → atD (0 :: ls) k < h) (hi : idxOk (cntO ((ls.length : Int) + 1) 200) (.int i) = true) (q : ∀ (p A B : Addr) (ds l : List Int), ((gr (0 :: ls) h.toNat (jF (0 :: ls) h.toNat) 0)[0]? = some ds) → ((gro (min 200 ls.length) ls.length 0)[i.toNat]? = some l) → Tr ((p, .lst [.int (wf (0 :: ls) h.toNat (jF (0 :: ls) h.toNat) 0), .ref A, .int 0, .int (cntO ((ls.length : Int) + 1) 200), .ref B, .int (rk (min 200 ls.length) ls.length ls)]) :: (A, .lst ((0 :: ds).map V.int)) :: (B, .lst ((0 :: l).map V.int)) :: L) (fun H => Q (.ref p) H)) : Tr L fun H => sp_law_asked C_InvalidNumberError [.ref a, .int h, .int i] H Q E :=
  fun H l => ⟨a, ls, h, i, L, rfl, l, hm, ho, h0, h1, hd, hi, q⟩

theorem ok_law_asked {C_InvalidNumberError : Addr} (D : Df K mg "_law_asked" s_law_asked) (B : Blt mg) (k_count_shortest : Ok P w K mg base CX0 5 "count_shortest" ["outline", "height"] sp_count_shortest) (k_nth_shortest : Ok P w K mg base CX0 5 "nth_shortest" ["outline", "height", "index"] sp_nth_shortest) (k_rank_shortest : Ok P w K mg base CX0 5 "rank_shortest" ["outline", "height", "scrolls"] sp_rank_shortest) (k_count_outlines : Ok P w K mg base CX0 3 "count_outlines" ["lines", "deepest"] sp_count_outlines) (k_nth_outline : Ok P w K mg base (L2.CX P w) 3 "nth_outline" ["lines", "deepest", "index"] (sp_nth_outline C_InvalidNumberError)) (k_rank_outline : Ok P w K mg base CX0 4 "rank_outline" ["outline", "deepest"] sp_rank_outline) : Ok P w K mg base CX0 6 "_law_asked" ["made", "tall", "at"] (sp_law_asked C_InvalidNumberError) := by
  obtain ⟨f, fd, hm, F⟩ := D
  refine ⟨f, fd, hm, F.kp, F.binds (fun _ _ _ _ _ _ us hl => match us, hl with | [_, _, _], _ => rfl), FunOkG F sc_law_asked (fun vs H Q E h => ?_) (fun cdv A outer s H vs Q E hr h => ?_), F.lk⟩
  · obtain ⟨_, _, _, _, _, rfl, _⟩ := h; rfl
  obtain ⟨a, ls, h, i, L, rfl, l, hm, ho, h0, h1, hd, hi, q⟩ := h
  refine ⟨_, PSs.nox (pss_cons (ps_set (i := 3) sc_law_asked.nd rfl (.inl rfl) (pe_callG k_nth_shortest (hr.mono (by omega)) pas0 (pa_cons (pv 0) (pa_cons (pv 1) (pa_cons pe_int pa_nil)))))
      (pss_cons (ps_set (i := 4) sc_law_asked.nd rfl (.inl rfl) (pe_lst (pa_cons (pe_callG k_count_shortest (hr.mono (by omega)) pas0 (pa_cons (pv 0) (pa_cons (pv 1) pa_nil))) (pa_cons (pv 3) (pa_cons (pe_callG k_rank_shortest (hr.mono (by omega)) pas0 (pa_cons (pv 0) (pa_cons (pv 1) (pa_cons (pv 3) pa_nil)))) (pa_cons (pe_callG k_count_outlines (hr.mono (by omega)) pas0 (pa_cons (pe_callB c_len rfl B.len_ boot_len (pa_cons (pv 0) pa_nil)) (pa_cons pe_int pa_nil))) pa_nil))))))
      (pss_one (ps_ret (pe_op op_cat (pv 4) (pe_lst (pa_cons (pe_callG k_nth_outline (hr.mono (by omega)) pasX0 (pa_cons (pe_callB c_len rfl B.len_ boot_len (pa_cons (pv 0) pa_nil)) (pa_cons pe_int (pa_cons (pv 2) pa_nil)))) (pa_cons (pe_callG k_rank_outline (hr.mono (by omega)) pas0 (pa_cons (pv 0) (pa_cons pe_int pa_nil))) pa_nil)))))))), ?_⟩
  rw [show L2.start ["made", "tall", "at", "first", "found"] [.ref a, .int h, .int i] = [some (.ref a), some (.int h), some (.int i), none, none] from rfl]
  refine Tr.of ?_ l
  obtain ⟨R_hm, P_hm⟩ := Pick.of_mem hm
  repeat walk_at "hz"
  have hl := ho.len
  rw [List.length_cons] at hl
  have hd' : ∀ i : Nat, i < (0 :: ls).length → atD (0 :: ls) i < h.toNat := fun i hi => by
    have := hd i (by omega) (by omega)
    omega
  have jp := jF_pos hd'
  repeat walk_at "hz"
  refine use_nth_shortest hm ho h0 h1 hd (by omega) (by omega) fun A ds e1 => ?_
  repeat walk_at "hz"
  refine use_count_shortest (.tail _ hm) ho h0 h1 hd ?_
  repeat walk_at "hz"
  refine use_rank_shortest (.tail _ hm) ho h0 h1 hd (.head _) e1 ?_
  repeat walk_at "hz"
  refine use_count_outlines (by rw [List.length_cons]; omega) (by omega) ?_
  repeat walk_at "hz"
  refine use_nth_outline (by rw [List.length_cons]; omega) (by omega) (.int _) (fun _ B l hl2 => ?_) (fun hn => by rw [List.length_cons, Int.natCast_succ, hi] at hn; cases hn)
  repeat walk_at "hz"
  refine use_rank_outline (ls := ls) (.tail _ (.tail _ (.tail _ hm))) ho (by omega) (fun x hx => ?_) ?_
  · obtain ⟨k, hk⟩ := List.mem_iff_getElem?.mp hx
    have := ho.bound (i := k + 1) (d := x) (by simpa using hk)
    have := (List.getElem?_eq_some_iff.mp hk).1
    omega
  have ec : cntO (((0 :: ls).length : Nat) : Int) 200 = cntO ((ls.length : Int) + 1) 200 := by rw [List.length_cons, Int.natCast_succ]
  have ek : (min (200 : Int) ls.length).toNat = min 200 ls.length := by omega
  have e5 : (min (200 : Int) ((((0 :: ls).length : Nat) : Int) - 1)).toNat = min 200 ls.length := by rw [List.length_cons]; omega
  have e6 : (((0 :: ls).length : Nat) : Int).toNat - 1 = ls.length := by rw [List.length_cons]; omega
  rw [e5, e6] at hl2
  rw [ec, ek]
  repeat walk_at "hz"
  exact (q _ A B ds l e1 hl2).sub (by walk_at "sb")

def sp_law_named (C_InvalidNumberError : Addr) : Sp := fun vs H Q E => ∃ (a : Addr) (ls : List Int) (h i : Int) (L : Lg), vs = [.ref a, .int h, .int i] ∧ Led H (L) ∧ ((a, HO.lst ((0 :: ls).map V.int)) ∈ L) ∧ (Outline (0 :: ls)) ∧ (1 ≤ h) ∧ (h ≤ 400) ∧ (∀ k : Int, 0 ≤ k → k < (0 :: ls).length → atD (0 :: ls) k < h) ∧ (idxOk (cntO ((ls.length : Int) + 1) 200) (.int i) = true) ∧ ∀ (p A B : Addr) (ds l : List Int), ((gr (0 :: ls) h.toNat (jF (0 :: ls) h.toNat) 0)[0]? = some ds) → ((gro (min 200 ls.length) ls.length 0)[i.toNat]? = some l) → Tr ((p, .lst [.int (wf (0 :: ls) h.toNat (jF (0 :: ls) h.toNat) 0), .ref A, .int 0, .int (cntO ((ls.length : Int) + 1) 200), .ref B, .int (rk (min 200 ls.length) ls.length ls)]) :: (A, .lst ((0 :: ds).map V.int)) :: (B, .lst ((0 :: l).map V.int)) :: L) (fun H => Q (.ref p) H)
theorem use_law_named {L : Lg} {Q : VK} {E : XK} {a : Addr} {ls : List Int} {h i : Int} (hm : (a, HO.lst ((0 :: ls).map V.int)) ∈ L) (ho : Outline (0 :: ls)) (h0 : 1 ≤ h) (h1 : h ≤ 400) (hd : ∀ k : Int, 0 ≤ k → k < (0 :: ls).length → atD (0 :: ls) k < h) (hi : idxOk (cntO ((ls.length : Int) + 1) 200) (.int i) = true) (q : ∀ (p A B : Addr) (ds l : List Int), ((gr (0 :: ls) h.toNat (jF (0 :: ls) h.toNat) 0)[0]? = some ds) → ((gro (min 200 ls.length) ls.length 0)[i.toNat]? = some l) → Tr ((p, .lst [.int (wf (0 :: ls) h.toNat (jF (0 :: ls) h.toNat) 0), .ref A, .int 0, .int (cntO ((ls.length : Int) + 1) 200), .ref B, .int (rk (min 200 ls.length) ls.length ls)]) :: (A, .lst ((0 :: ds).map V.int)) :: (B, .lst ((0 :: l).map V.int)) :: L) (fun H => Q (.ref p) H)) : Tr L fun H => sp_law_named C_InvalidNumberError [.ref a, .int h, .int i] H Q E :=
  fun H l => ⟨a, ls, h, i, L, rfl, l, hm, ho, h0, h1, hd, hi, q⟩

theorem ok_law_named {C_InvalidNumberError : Addr} (D : Df K mg "_law_named" s_law_named) (B : Blt mg) (k_count_shortest : Ok P w K mg base CX0 5 "count_shortest" ["outline", "height"] sp_count_shortest) (k_nth_shortest : Ok P w K mg base CX0 5 "nth_shortest" ["outline", "height", "index"] sp_nth_shortest) (k_rank_shortest : Ok P w K mg base CX0 5 "rank_shortest" ["outline", "height", "scrolls"] sp_rank_shortest) (k_count_outlines : Ok P w K mg base CX0 3 "count_outlines" ["lines", "deepest"] sp_count_outlines) (k_nth_outline : Ok P w K mg base (L2.CX P w) 3 "nth_outline" ["lines", "deepest", "index"] (sp_nth_outline C_InvalidNumberError)) (k_rank_outline : Ok P w K mg base CX0 4 "rank_outline" ["outline", "deepest"] sp_rank_outline) (D_count_shortest : Df K mg "count_shortest" s_count_shortest) (D_nth_shortest : Df K mg "nth_shortest" s_nth_shortest) (D_rank_shortest : Df K mg "rank_shortest" s_rank_shortest) (D_count_outlines : Df K mg "count_outlines" s_count_outlines) (D_nth_outline : Df K mg "nth_outline" s_nth_outline) (D_rank_outline : Df K mg "rank_outline" s_rank_outline) : Ok P w K mg base CX0 6 "_law_named" ["made", "tall", "at"] (sp_law_named C_InvalidNumberError) := by
  obtain ⟨f, fd, hm, F⟩ := D
  refine ⟨f, fd, hm, F.kp, F.binds (fun _ _ _ _ _ _ us hl => match us, hl with | [_, _, _], _ => rfl), FunOkG F sc_law_named (fun vs H Q E h => ?_) (fun cdv A outer s H vs Q E hr h => ?_), F.lk⟩
  · obtain ⟨_, _, _, _, _, rfl, _⟩ := h; rfl
  obtain ⟨a, ls, h, i, L, rfl, l, hm, ho, h0, h1, hd, hi, q⟩ := h
  refine ⟨_, PSs.nox (pss_cons (ps_set (i := 3) sc_law_named.nd rfl (.inl rfl) (pe_callGK0 D_nth_shortest k_nth_shortest (hr.mono (by omega)) pas0 3 [2, 1, 0] ["index", "height", "outline"] ⟨_, rfl⟩ (fun _ _ _ _ _ _ us ws h1 h2 => match us, ws, h1, h2 with | [], [_, _, _], _, _ => rfl) (pk_cons pe_int (pk_cons (pv 1) (pk_cons (pv 0) pk_nil)))))
      (pss_cons (ps_set (i := 4) sc_law_named.nd rfl (.inl rfl) (pe_lst (pa_cons (pe_callGK0 D_count_shortest k_count_shortest (hr.mono (by omega)) pas0 2 [1, 0] ["height", "outline"] ⟨_, rfl⟩ (fun _ _ _ _ _ _ us ws h1 h2 => match us, ws, h1, h2 with | [], [_, _], _, _ => rfl) (pk_cons (pv 1) (pk_cons (pv 0) pk_nil))) (pa_cons (pv 3) pa_nil))))
      (pss_cons (ps_expr (pe_bm PySem.F.plainAttrs_list PySem.F.slot_list_append PySem.F.type_list_append mt_append (pv 4) (pa_cons (pe_callGK0 D_rank_shortest k_rank_shortest (hr.mono (by omega)) pas0 3 [2, 1, 0] ["scrolls", "height", "outline"] ⟨_, rfl⟩ (fun _ _ _ _ _ _ us ws h1 h2 => match us, ws, h1, h2 with | [], [_, _, _], _, _ => rfl) (pk_cons (pv 3) (pk_cons (pv 1) (pk_cons (pv 0) pk_nil)))) pa_nil)))
      (pss_cons (ps_set (i := 4) sc_law_named.nd rfl (.inl rfl) (pe_op op_cat (pv 4) (pe_lst (pa_cons (pe_callGK0 D_count_outlines k_count_outlines (hr.mono (by omega)) pas0 2 [1, 0] ["deepest", "lines"] ⟨_, rfl⟩ (fun _ _ _ _ _ _ us ws h1 h2 => match us, ws, h1, h2 with | [], [_, _], _, _ => rfl) (pk_cons pe_int (pk_cons (pe_callB c_len rfl B.len_ boot_len (pa_cons (pv 0) pa_nil)) pk_nil))) pa_nil))))
      (pss_cons (ps_expr (pe_bm PySem.F.plainAttrs_list PySem.F.slot_list_append PySem.F.type_list_append mt_append (pv 4) (pa_cons (pe_callGK0 D_nth_outline k_nth_outline (hr.mono (by omega)) pasX0 3 [2, 1, 0] ["index", "deepest", "lines"] ⟨_, rfl⟩ (fun _ _ _ _ _ _ us ws h1 h2 => match us, ws, h1, h2 with | [], [_, _, _], _, _ => rfl) (pk_cons (pv 2) (pk_cons pe_int (pk_cons (pe_callB c_len rfl B.len_ boot_len (pa_cons (pv 0) pa_nil)) pk_nil)))) pa_nil)))
      (pss_one (ps_ret (pe_op op_cat (pv 4) (pe_lst (pa_cons (pe_callGK0 D_rank_outline k_rank_outline (hr.mono (by omega)) pas0 2 [1, 0] ["deepest", "outline"] ⟨_, rfl⟩ (fun _ _ _ _ _ _ us ws h1 h2 => match us, ws, h1, h2 with | [], [_, _], _, _ => rfl) (pk_cons pe_int (pk_cons (pv 0) pk_nil))) pa_nil)))))))))), ?_⟩
  rw [show L2.start ["made", "tall", "at", "first", "found"] [.ref a, .int h, .int i] = [some (.ref a), some (.int h), some (.int i), none, none] from rfl]
  refine Tr.of ?_ l
  obtain ⟨R_hm, P_hm⟩ := Pick.of_mem hm
  repeat walk_at "hz"
  have hl := ho.len
  rw [List.length_cons] at hl
  have hd' : ∀ i : Nat, i < (0 :: ls).length → atD (0 :: ls) i < h.toNat := fun i hi => by
    have := hd i (by omega) (by omega)
    omega
  have jp := jF_pos hd'
  repeat walk_at "hz"
  refine use_nth_shortest hm ho h0 h1 hd (by omega) (by omega) fun A ds e1 => ?_
  repeat walk_at "hz"
  refine use_count_shortest (by walk_at "mb") ho h0 h1 hd ?_
  repeat walk_at "hz"
  refine use_rank_shortest (by walk_at "mb") ho h0 h1 hd (by walk_at "mb") e1 ?_
  repeat walk_at "hz"
  refine use_count_outlines (by rw [List.length_cons]; omega) (by omega) ?_
  repeat walk_at "hz"
  refine use_nth_outline (by rw [List.length_cons]; omega) (by omega) (.int _) (fun _ B l hl2 => ?_) (fun hn => by rw [List.length_cons, Int.natCast_succ, hi] at hn; cases hn)
  repeat walk_at "hz"
  refine use_rank_outline (ls := ls) (by walk_at "mb") ho (by omega) (fun x hx => ?_) ?_
  · obtain ⟨k, hk⟩ := List.mem_iff_getElem?.mp hx
    have := ho.bound (i := k + 1) (d := x) (by simpa using hk)
    have := (List.getElem?_eq_some_iff.mp hk).1
    omega
  have ec : cntO (((0 :: ls).length : Nat) : Int) 200 = cntO ((ls.length : Int) + 1) 200 := by rw [List.length_cons, Int.natCast_succ]
  have ek : (min (200 : Int) ls.length).toNat = min 200 ls.length := by omega
  have e5 : (min (200 : Int) ((((0 :: ls).length : Nat) : Int) - 1)).toNat = min 200 ls.length := by rw [List.length_cons]; omega
  have e6 : (((0 :: ls).length : Nat) : Int).toNat - 1 = ls.length := by rw [List.length_cons]; omega
  rw [e5, e6] at hl2
  rw [ec, ek]
  repeat walk_at "hz"
  exact (q _ A B ds l e1 hl2).sub (by walk_at "sb")

theorem jF_le (ns : List Int) (h : Nat) : jF ns h ≤ ns.length := by
  unfold jF
  cases e : (List.range (ns.length + 1)).find? fun j => decide (wf ns h j 0 ≠ 0) with
  | none => exact Nat.zero_le _
  | some j =>
    have := List.mem_range.mp (List.mem_of_find?_eq_some e)
    show j ≤ ns.length
    omega
theorem Outline.head0 {ns : List Int} (h : Outline ns) : ∃ ls, ns = 0 :: ls := by
  have hl := h.len
  cases ns with
  | nil => simp at hl
  | cons d r =>
    have := h.chain.1
    have := h.chain.2.1
    exact ⟨r, by rw [show d = 0 by omega]⟩
/-- the results of all six -/
def asD (ls : List Int) (h : Nat) (ds l : List Int) : PyData := .list [.int (wf (0 :: ls) h (jF (0 :: ls) h) 0), .list ((0 :: ds).map PyData.int), .int 0, .int (cntO ((ls.length : Int) + 1) 200), .list ((0 :: l).map PyData.int), .int (rk (min 200 ls.length) ls.length ls)]
theorem asD_dt {L : Lg} {p A B : Addr} {ls ds l : List Int} {h : Nat} (hp : (p, HO.lst [.int (wf (0 :: ls) h (jF (0 :: ls) h) 0), .ref A, .int 0, .int (cntO ((ls.length : Int) + 1) 200), .ref B, .int (rk (min 200 ls.length) ls.length ls)]) ∈ L)
    (ha : (A, HO.lst ((0 :: ds).map V.int)) ∈ L) (hb : (B, HO.lst ((0 :: l).map V.int)) ∈ L) : Dt L (.ref p) (asD ls h ds l) :=
  .lst hp (.cons (.int _) (.cons (Dt.ints ha) (.cons (.int _) (.cons (.int _) (.cons (Dt.ints hb) (.cons (.int _) .nil))))))
theorem asD_deep (ls : List Int) (h : Nat) (ds l : List Int) : (asD ls h ds l).depth ≤ 2 := by
  have a := deep_intsL (0 :: ds)
  have b := deep_intsL (0 :: l)
  unfold asD
  simp only [PyData.depth, PyData.depthAll] at *
  omega
theorem asD_wide {ls : List Int} {h : Nat} {ds l : List Int} (hd : ds.length ≤ 1000) (hl : l.length ≤ 1000) : wide (asD ls h ds l) = true := by
  unfold asD
  rw [wide, wideAll, wideAll, wideAll, wideAll, wideAll, wideAll, wideAll, wide_int, wide_int, wide_int, wide_int, wide_ints (by rw [List.length_cons]; omega), wide_ints (by rw [List.length_cons]; omega)]
  rfl
theorem idx_rank {ls : List Int} {j : Nat} (h : j < (gro (min 200 ls.length) ls.length 0).length) : idxOk (cntO ((ls.length : Int) + 1) 200) (.int (j : Nat)) = true := by
  have e : cntO ((ls.length : Int) + 1) 200 = ((gro (min 200 ls.length) ls.length 0).length : Nat) := by
    rw [cntO, gro_len, show (min (200 : Int) ((ls.length : Int) + 1 - 1)).toNat = min 200 ls.length by omega, show ((ls.length : Int) + 1).toNat - 1 = ls.length by omega]
  rw [idxOk, e, Bool.and_eq_true, decide_eq_true_eq, decide_eq_true_eq]
  omega
def sp_law (K : PySem.W.Frag) : Sp := fun vs H Q E => ∃ (a : Addr) (ns : List Int) (L : Lg), vs = [.ref a] ∧ Led H (L) ∧ (Scr K L a ns) ∧ (ns.length ≤ 63) ∧ Tr (L) (fun H => Q (.bl true) H)
theorem use_law {L : Lg} {Q : VK} {E : XK} {a : Addr} {ns : List Int} (hS : Scr K L a ns) (hl : ns.length ≤ 63) (q : Tr (L) (fun H => Q (.bl true) H)) : Tr L fun H => sp_law K [.ref a] H Q E :=
  fun H l => ⟨a, ns, L, rfl, l, hS, hl, q⟩

theorem ok_law {C_InvalidNumberError : Addr} (D : Df K mg "law" s_law) (B : Blt mg) (k_rank_outline : Ok P w K mg base CX0 4 "rank_outline" ["outline", "deepest"] sp_rank_outline) (k__law_open_source : Ok P w K mg base CX0 1 "_law_open_source" ["script", "k"] (sp_law_open_source K)) (k__law_same : Ok P w K mg base CX0 3 "_law_same" ["result", "expected"] (sp_same 2)) (k__law_made : Ok P w K mg base CX0 2 "_law_made" ["source", "script", "most", "bound"] (sp_law_made K)) (k__law_height : Ok P w K mg base CX0 2 "_law_height" ["source", "made"] sp_law_height) (k__law_asked : Ok P w K mg base CX0 6 "_law_asked" ["made", "tall", "at"] (sp_law_asked C_InvalidNumberError)) (k__law_named : Ok P w K mg base CX0 6 "_law_named" ["made", "tall", "at"] (sp_law_named C_InvalidNumberError)) : Ok P w K mg base CX0 7 "law" ["script"] (sp_law K) := by
  obtain ⟨f, fd, hm, F⟩ := D
  refine ⟨f, fd, hm, F.kp, F.binds (fun _ _ _ _ _ _ us hl => match us, hl with | [_], _ => rfl), FunOkG F sc_law (fun vs H Q E h => ?_) (fun cdv A outer s H vs Q E hr h => ?_), F.lk⟩
  · obtain ⟨_, _, _, rfl, _⟩ := h; rfl
  obtain ⟨a, ns, L, rfl, l, hS, hl, q⟩ := h
  refine ⟨_, PSs.nox (pss_cons (ps_for PassesOwn.never rfl (pi_range1 rfl B.range_ (pa_cons (pe_callB (c_max2 rfl) rfl B.max_ boot_max (pa_cons pe_int (pa_cons (pe_callB (c_min2 rfl) rfl B.min_ boot_min (pa_cons pe_int (pa_cons (pe_callB c_len rfl B.len_ boot_len (pa_cons (pv 0) pa_nil)) pa_nil))) pa_nil))) pa_nil)) (pg_name (i := 1) sc_law.nd rfl (.inl rfl))
        (pss_cons (ps_set (i := 2) sc_law.nd rfl (.inl rfl) (pe_callG k__law_open_source (hr.mono (by omega)) pas0 (pa_cons (pv 0) (pa_cons (pv 1) pa_nil))))
      (pss_cons (ps_par (i := 3) (j := 4) (by rfl) sc_law.nd rfl rfl (by decide) rfl rfl (pa_cons (pe_callG k__law_made (hr.mono (by omega)) pas0 (pa_cons (pv 2) (pa_cons (pv 0) (pa_cons pe_int (pa_cons pe_int pa_nil))))) (pa_cons (pe_callG k__law_made (hr.mono (by omega)) pas0 (pa_cons (pv 2) (pa_cons (pv 0) (pa_cons pe_int (pa_cons pe_int pa_nil))))) pa_nil)) (by rfl))
      (pss_cons (ps_par (i := 5) (j := 6) (by rfl) sc_law.nd rfl rfl (by decide) rfl rfl (pa_cons (pe_callG k__law_height (hr.mono (by omega)) pas0 (pa_cons (pv 2) (pa_cons (pv 3) pa_nil))) (pa_cons (pe_callG k__law_height (hr.mono (by omega)) pas0 (pa_cons (pv 2) (pa_cons (pv 4) pa_nil))) pa_nil)) (by rfl))
      (pss_cons (ps_set (i := 7) sc_law.nd rfl (.inl rfl) (pe_callG k_rank_outline (hr.mono (by omega)) pas0 (pa_cons (pv 3) (pa_cons pe_int pa_nil))))
      (pss_cons (ps_set (i := 8) sc_law.nd rfl (.inl rfl) (pe_callG k__law_asked (hr.mono (by omega)) pas0 (pa_cons (pv 3) (pa_cons (pv 5) (pa_cons (pv 7) pa_nil)))))
      (pss_cons (ps_expr (pe_bm PySem.F.plainAttrs_list PySem.F.slot_list_append PySem.F.type_list_append mt_append (pe_ix ix_list (pe_callG k__law_asked (hr.mono (by omega)) pas0 (pa_cons (pv 4) (pa_cons (pv 6) (pa_cons pe_int pa_nil)))) pe_int (fun _ _ => rfl)) (pa_cons pe_int pa_nil)))
      (pss_cons (ps_set (i := 9) sc_law.nd rfl (.inl rfl) (pe_callG k__law_named (hr.mono (by omega)) pas0 (pa_cons (pv 3) (pa_cons (pv 5) (pa_cons (pv 7) pa_nil)))))
      (pss_cons (ps_if (pt_not (pt_val (pe_callG k__law_same (hr.mono (by omega)) pas0 (pa_cons (pv 9) (pa_cons (pv 8) pa_nil))))) (pss_one (ps_ret pe_bl))
        pss_nil)
      (pss_cons (ps_expr (pe_bm PySem.F.plainAttrs_list PySem.F.slot_list_append PySem.F.type_list_append mt_append (pe_ix ix_list (pv 9) pe_int (fun _ _ => rfl)) (pa_cons pe_int pa_nil)))
      (pss_cons (ps_expr (pe_bm0 PySem.F.plainAttrs_list PySem.F.slot_list_clear PySem.F.type_list_clear mt_clear (pe_ix ix_list (pv 9) pe_int (fun _ _ => rfl))))
      (pss_cons (ps_set (i := 10) sc_law.nd rfl (.inl rfl) (pe_callTy c_list rfl B.list_ boot_list (pa_cons (pv 3) pa_nil)))
      (pss_cons (ps_expr (pe_bm PySem.F.plainAttrs_list PySem.F.slot_list_append PySem.F.type_list_append mt_append (pv 3) (pa_cons pe_int pa_nil)))
      (pss_one (ps_if (pt_not (pt_val (pe_callG k__law_same (hr.mono (by omega)) pas0 (pa_cons (pe_callG k__law_asked (hr.mono (by omega)) pas0 (pa_cons (pv 10) (pa_cons (pv 5) (pa_cons (pv 7) pa_nil)))) (pa_cons (pv 8) pa_nil))))) (pss_one (ps_ret pe_bl))
        pss_nil)))))))))))))))
      (pss_one (ps_ret pe_bl))), ?_⟩
  rw [show L2.start ["script", "k", "source", "made", "other", "tall", "wide", "at", "expected", "results", "copied"] [.ref a] = [some (.ref a), none, none, none, none, none, none, none, none, none, none] from rfl]
  refine Tr.of ?_ l
  repeat walk_at "hz"
  repeat walk_at "hz"
  refine t_lenSc hS ?_
  repeat walk_at "hz"
  refine t_forK wk_range (fun t ((j1, j2, j3, j4, j5, j6, j7, j8, j9, j10) : Option V × Option V × Option V × Option V × Option V × Option V × Option V × Option V × Option V × Option V) => [some (.ref a), j1, j2, j3, j4, j5, j6, j7, j8, j9, j10]) (fun t ((j1, j2, j3, j4, j5, j6, j7, j8, j9, j10) : Option V × Option V × Option V × Option V × Option V × Option V × Option V × Option V × Option V × Option V) => L) (fun t ((j1, j2, j3, j4, j5, j6, j7, j8, j9, j10) : Option V × Option V × Option V × Option V × Option V × Option V × Option V × Option V × Option V × Option V) => True) ⟨(_, _, _, _, _, _, _, _, _, _), trivial, rfl, (by walk_at "sb")⟩ (fun _ _ _ => trivial) ?_ ?_
  · rintro t ⟨j1, j2, j3, j4, j5, j6, j7, j8, j9, j10⟩ v L' ht - ⟨rfl, rfl⟩
    try dsimp only at  ⊢
    simp only [List.nil_append, List.cons_append]
    repeat walk_at "hz"
    refine use_law_open_source hS (by omega) (by omega) fun p2 o hs => ?_
    repeat walk_at "hz"
    refine use_law_made (by walk_at "pk") hS hs (by omega) (by omega) (by omega) (by omega) (by omega) fun pm ms o1 ho1 hn1 hs => ?_
    repeat walk_at "hz"
    refine use_law_made (by walk_at "pk") hS.cons hs (by omega) (by omega) (by omega) (by omega) (by omega) fun pn ns2 o2 ho2 hn2 hs => ?_
    repeat walk_at "hz"
    refine use_law_height (by walk_at "pk") (by walk_at "mb") ho1 hn1 hs (by omega) fun h1 o3 h1a h1b h1d hs => ?_
    repeat walk_at "hz"
    refine use_law_height (by walk_at "pk") (by walk_at "mb") ho2 hn2 hs (by omega) fun h2 o4 h2a h2b h2d hs => ?_
    repeat walk_at "hz"
    obtain ⟨ls, rfl⟩ := ho1.head0
    obtain ⟨ls2, rfl⟩ := ho2.head0
    rw [List.length_cons] at hn1 hn2
    obtain ⟨j, hj, hg⟩ := rk_back ho1 (b := 200) (by omega)
    rw [show (min (200 : Int) ls.length).toNat = min 200 ls.length by omega] at hj hg
    refine use_rank_outline (ls := ls) (by walk_at "mb") ho1 (by omega) (fun x hx => ?_) ?_
    · obtain ⟨k, hk⟩ := List.mem_iff_getElem?.mp hx
      have := ho1.bound (i := k + 1) (d := x) (by simpa using hk)
      have := (List.getElem?_eq_some_iff.mp hk).1
      omega
    rw [show (min (200 : Int) ls.length).toNat = min 200 ls.length by omega, hj]
    have ij := idx_rank (List.getElem?_eq_some_iff.mp hg).1
    have i0 : idxOk (cntO ((ls2.length : Int) + 1) 200) (.int 0) = true := idx_rank (j := 0) (by
      have := gro_len (min 200 ls2.length) ls2.length 0
      have := wy_one (min 200 ls2.length) ls2.length 0
      omega)
    repeat walk_at "hz"
    refine use_law_asked (by walk_at "mb") ho1 h1a h1b h1d ij fun q1 A1 B1 ds l e1 e2 => ?_
    repeat walk_at "hz"
    refine use_law_asked (by walk_at "mb") ho2 h2a h2b h2d i0 fun q2 A2 B2 ds2 l2 e3 e4 => ?_
    have dz := gr_llen _ _ _ _ _ _ e1
    have jn := jF_le (0 :: ls) h1.toNat
    have dz2 := gr_llen _ _ _ _ _ _ e3
    have jn2 := jF_le (0 :: ls2) h2.toNat
    rw [List.length_cons] at jn jn2
    have sz2 : (0 :: ds2).length ≤ 100 := by rw [List.length_cons]; omega
    have lz : l.length ≤ 1000 := by rw [(rk_at _ _ _ _ _ e2).2.1]; omega
    repeat walk_at "hz"
    refine use_law_named (by walk_at "mb") ho1 h1a h1b h1d ij fun q3 A3 B3 ds3 l3 e5 e6 => ?_
    obtain rfl : ds = ds3 := Option.some.inj (e1.symm.trans e5)
    obtain rfl : l = l3 := Option.some.inj (e2.symm.trans e6)
    repeat walk_at "hz"
    refine use_same (asD_dt (by walk_at "mb") (by walk_at "mb") (by walk_at "mb")) (asD_dt (by walk_at "mb") (by walk_at "mb") (by walk_at "mb")) (asD_deep _ _ _ _) (asD_wide (by omega) lz) ?_
    repeat walk_at "hz"
    refine t_clear (by walk_at "pk") ?_
    repeat walk_at "hz"
    rename_i pc
    refine use_law_asked (ls := ls) (by walk_at "mb") ho1 h1a h1b h1d ij fun q4 A4 B4 ds4 l4 e7 e8 => ?_
    obtain rfl : ds = ds4 := Option.some.inj (e1.symm.trans e7)
    obtain rfl : l = l4 := Option.some.inj (e2.symm.trans e8)
    repeat walk_at "hz"
    refine use_same (asD_dt (by walk_at "mb") (by walk_at "mb") (by walk_at "mb")) (asD_dt (by walk_at "mb") (by walk_at "mb") (by walk_at "mb")) (asD_deep _ _ _ _) (asD_wide (by omega) lz) ?_
    repeat walk_at "hz"
    refine t_pst (_, _, _, _, _, _, _, _, _, _) trivial rfl (by walk_at "sb")
  · rintro ⟨j1, j2, j3, j4, j5, j6, j7, j8, j9, j10⟩ -
    try dsimp only at  ⊢
    repeat walk_at "hz"
    exact q.sub (by walk_at "sb")
theorem law_ok (B : Blt mg) (g_MAX_LINES_outlines : GV mg "MAX_LINES_outlines" (.int 200)) (g_MAX_DEPTH : GV mg "MAX_DEPTH" (.int 200)) (g_MOST_ROWS : GV mg "MOST_ROWS" (.int 400)) (g_MAX_LINES_counting : GV mg "MAX_LINES_counting" (.int 200)) (d_is_integer : Df K mg "is_integer" s_is_integer) (d_is_outline : Df K mg "is_outline" s_is_outline) (d_check_outline : Df K mg "check_outline" s_check_outline) (d_continuations : Df K mg "continuations" s_continuations) (d_rank_outline : Df K mg "rank_outline" s_rank_outline) (d__law_open_source : Df K mg "_law_open_source" s_law_open_source) (d__law_same : Df K mg "_law_same" s_law_same) (d__law_draw : Df K mg "_law_draw" s_law_draw) (d__law_made : Df K mg "_law_made" s_law_made) (d__law_height : Df K mg "_law_height" s_law_height) (d_check_height : Df K mg "check_height" s_check_height) (d_check_not_too_deep : Df K mg "check_not_too_deep" s_check_not_too_deep) (d_check_arguments : Df K mg "check_arguments" s_check_arguments) (d_stops_of : Df K mg "stops_of" s_stops_of) (d_ways_to_finish : Df K mg "ways_to_finish" s_ways_to_finish) (d_count_shortest : Df K mg "count_shortest" s_count_shortest) (d_nth_shortest : Df K mg "nth_shortest" s_nth_shortest) (d_rank_shortest : Df K mg "rank_shortest" s_rank_shortest) (d_check_sizes : Df K mg "check_sizes" s_check_sizes) (d_count_outlines : Df K mg "count_outlines" s_count_outlines) (d_nth_outline : Df K mg "nth_outline" s_nth_outline) (d__law_asked : Df K mg "_law_asked" s_law_asked) (d__law_named : Df K mg "_law_named" s_law_named) (d_law : Df K mg "law" s_law) (x_InvalidNumberError : ∃ C, ExcC K mg "InvalidNumberError" C) :
    Ok P w K mg base CX0 7 "law" ["script"] (sp_law K) := by
  obtain ⟨C_InvalidNumberError, X_InvalidNumberError⟩ := x_InvalidNumberError
  have k_is_integer := ok_is_integer (P := P) (w := w) (base := base) d_is_integer B
  have k_is_outline := ok_is_outline (P := P) (w := w) (base := base) d_is_outline B g_MAX_LINES_outlines k_is_integer
  have k_check_outline := ok_check_outline (P := P) (w := w) (base := base) d_check_outline k_is_outline
  have k_continuations := ok_continuations (P := P) (w := w) (base := base) d_continuations B
  have k_rank_outline := ok_rank_outline (P := P) (w := w) (base := base) d_rank_outline B g_MAX_DEPTH k_is_integer k_check_outline k_continuations
  have k__law_open_source := ok_law_open_source (P := P) (w := w) (base := base) d__law_open_source B
  have k__law_same := ok_law_same (P := P) (w := w) (base := base) d__law_same B
  have k__law_draw := ok_law_draw (P := P) (w := w) (base := base) d__law_draw B
  have k__law_made := ok_law_made (P := P) (w := w) (base := base) d__law_made B k__law_draw
  have k__law_height := ok_law_height (P := P) (w := w) (base := base) d__law_height B k__law_draw
  have k_check_height := ok_check_height (P := P) (w := w) (base := base) d_check_height B g_MOST_ROWS k_is_integer
  have k_check_not_too_deep := ok_check_not_too_deep (P := P) (w := w) (base := base) d_check_not_too_deep B
  have k_check_arguments := ok_check_arguments (P := P) (w := w) (base := base) d_check_arguments B k_check_outline k_check_height k_check_not_too_deep
  have k_stops_of := ok_stops_of (P := P) (w := w) (base := base) d_stops_of B
  have k_ways_to_finish := ok_ways_to_finish (P := P) (w := w) (base := base) d_ways_to_finish B k_stops_of
  have k_count_shortest := ok_count_shortest (P := P) (w := w) (base := base) d_count_shortest B k_check_arguments k_ways_to_finish
  have k_nth_shortest := ok_nth_shortest (P := P) (w := w) (base := base) d_nth_shortest B k_is_integer k_check_arguments k_ways_to_finish
  have k_rank_shortest := ok_rank_shortest (P := P) (w := w) (base := base) d_rank_shortest B k_is_integer k_stops_of k_check_arguments k_ways_to_finish
  have k_check_sizes := ok_check_sizes (P := P) (w := w) (base := base) d_check_sizes B g_MAX_LINES_counting g_MAX_DEPTH k_is_integer
  have k_count_outlines := ok_count_outlines (P := P) (w := w) (base := base) d_count_outlines B k_check_sizes k_continuations
  have k_nth_outline := ok_nth_outline (P := P) (w := w) (base := base) d_nth_outline B X_InvalidNumberError k_is_integer k_check_sizes k_continuations
  have k__law_asked := ok_law_asked (P := P) (w := w) (base := base) d__law_asked B k_count_shortest k_nth_shortest k_rank_shortest k_count_outlines k_nth_outline k_rank_outline
  have k__law_named := ok_law_named (P := P) (w := w) (base := base) d__law_named B k_count_shortest k_nth_shortest k_rank_shortest k_count_outlines k_nth_outline k_rank_outline d_count_shortest d_nth_shortest d_rank_shortest d_count_outlines d_nth_outline d_rank_outline
  have k_law := ok_law (P := P) (w := w) (base := base) d_law B k_rank_outline k__law_open_source k__law_same k__law_made k__law_height k__law_asked k__law_named
  exact k_law


end
end Hz
open PySem PySem.W PyProof.Rows
set_option maxRecDepth 100000 in
set_option maxHeartbeats 0 in
theorem PySem.Challenge.cw_stickyheads_k58_named_arguments_of_readi_holds : PySem.Challenge.rw_stickyheads_k58_named_arguments_of_readi.Holds := by
  w_on; o_law; k_head; (case hw => w_witness2)
  k_fill
  refine Hz.walkG (l := PySem.Challenge.rw_stickyheads_k58_named_arguments_of_readi) (n := 63) (k := 7) (x := "script") (CX := fun _ => L2.CX0) (sp := fun w => Hz.sp_law _) rfl (by decide) rfl ⟨⟨rfl, by decide, by decide⟩, rfl⟩ (fun w h Y => PySem.W.kIn_of Y) ?F
    (fun w H a ns hl hb _ hS => by
      obtain ⟨L, l, hS⟩ := Hz.scr_start hS
      exact ⟨a, ns, L, rfl, l, hS, hl, by first | exact fun _ => rfl | exact fun _ _ => rfl⟩) (fun _ _ _ _ _ h => h)
  case F =>
    intro w mg fa h KX G hmg base _ _
    refine Hz.law_ok ⟨?_, ?_, ?_, ?_, ?_, ?_, ?_, ?_, ?_, ?_, ?_, ?_, ?_, ?_, ?_, ?_, ?_, ?_, ?_, ?_⟩ ?_ ?_ ?_ ?_ ?_ ?_ ?_ ?_ ?_ ?_ ?_ ?_ ?_ ?_ ?_ ?_ ?_ ?_ ?_ ?_ ?_ ?_ ?_ ?_ ?_ ?_ ?_ ?_ ?_
    iterate 20 (refine Hz.no_mk KX G ?_; k_is)
    · refine' Hz.gv_mk KX G ?a ?r; (case a => k_is); (case r => exact ⟨_, rfl⟩)
    · refine' Hz.gv_mk KX G ?a ?r; (case a => k_is); (case r => exact ⟨_, rfl⟩)
    · refine' Hz.gv_mk KX G ?a ?r; (case a => k_is); (case r => exact ⟨_, rfl⟩)
    · refine' Hz.gv_mk KX G ?a ?r; (case a => k_is); (case r => exact ⟨_, rfl⟩)
    iterate 24 (refine' Hz.df_mk KX G ?a ?l ?c ?k; (case a => k_is); (case l => k_is); (case c => k_is); (case k => k_is))
    iterate 1 (refine' Hz.exc_mk KX G ?a ?k ?e ?r ?t ?i ?s; (case a => k_is); (case k => k_is); (case e => k_exc); (case r => k_is); (case t => k_is); (case i => k_is); (case s => first | rfl | k_is))
