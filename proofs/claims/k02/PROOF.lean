import PyProof.Rows.All
import Wide.All
import OpenK.AllK
import Wide.FinOn
import PyProof.EqAt
import PyProof.EqKinds
import PyProof.TupleCall
import PyProof.ReprRoads
import HandS.ForMost
import HandS.Exc
import HandS.TryOnly
import HandS.ExcOwn
import HandS.WordsExc
import HandS.EndBits
import HandS.Wide
import HandS.IsInst
import HandS.Flow
import HandS.Style
import HandS.RaiseMore
import HandS.Steps
import HandS.Conv
import HandS.More
import HandS.Deep
import HandS.SortInts
import HandS.SortKw
import HandS.Zip
import PyProof.ReprLen
import PySem.Challenge.RW_stickyheads_k02_headings_of_lines
set_option Elab.async false
set_option linter.all false
set_option maxRecDepth 100000
set_option maxHeartbeats 4000000
set_option exponentiation.threshold 2000
/-! Hz, part A: calls of defs where it is known that no repr is under way. -/
namespace Hz
open PySem PySem.Spec PyProof.Rows L2 RZ

/-- room for k calls; no repr is under way -/
structure RoomG (k : Nat) (A : Around) : Prop where
  rm : Room k A
  gd : A.guards = some []
theorem RoomG.mono {j k : Nat} {A : Around} (r : RoomG k A) (h : j ≤ k) : RoomG j A := ⟨r.rm.mono h, r.gd⟩
theorem RoomG.deeper {k : Nat} {A : Around} (r : RoomG (k + 1) A) (env : Env) : RoomG k (A.deeper env) := ⟨r.rm.deeper env, r.gd⟩

/-- a def keeps its promise wherever no repr is under way -/
structure FnG (P : Program) (w : World) (K : PySem.W.Frag) (mg : Str → Option Value) (base : Heap) (CX : CXT) (k : Nat) (f : Addr) (fd : FuncData) (ps : List Str) (sp : Sp) : Prop where
  len : ∀ vs H Q E, sp vs H Q E → vs.length = ps.length
  run : ∀ (A : Around) (outer : List Env) (s : Shared) (H : Hp) (args : Args) (us : List Value) (vs : List V) (Q : VK) (E : XK),
    RoomG k A → Env0 P w K mg base A outer s H → BindsTo s fd args (ps.zip us) → Vals vs us → sp vs H Q E →
      codeAny (model P w) A (.call (.ref f) args) (CR CX outer P w H s Q E) s
theorem FnG.mono {P : Program} {w : World} {K : PySem.W.Frag} {mg : Str → Option Value} {base : Heap} {CX : CXT} {j k : Nat} {f : Addr} {fd : FuncData} {ps : List Str} {sp : Sp}
    (F : FnG P w K mg base CX j f fd ps sp) (h : j ≤ k) : FnG P w K mg base CX k f fd ps sp :=
  ⟨F.len, fun A o s H a us vs Q E r => F.run A o s H a us vs Q E (r.mono h)⟩

/-- by its body -/
theorem fnG_of {CX : CXT} {P : Program} {w : World} {K : PySem.W.Frag} {mg : Str → Option Value} {base : Heap} {k : Nat} {f : Addr} {name qual : Str}
    {params : Arguments} {body : List Stmt} {scope : Scope} {dV kV doc pm cdv ct oc : Value} {an od : Option Addr} {osl : Array (Option Value)} {N ps : List Str} {sp : Sp}
    (lk : K.lookup f = some ⟨oc, od, .func (PySem.W.fnOf name qual params body scope dV kV doc pm an cdv ct), osl⟩)
    (hcd : PySem.W.codeIn K cdv qual = true) (S : FnScope N ps scope) (len : ∀ vs H Q E, sp vs H Q E → vs.length = ps.length)
    (hbody : ∀ (A : Around) (outer : List Env) (s : Shared) (H : Hp) (vs : List V) (Q : VK) (E : XK),
      RoomG k (A.deeper (envOfC qual scope s.heap.objs.size f cdv)) → sp vs H Q E →
      ∃ t, PSs (cxOf CX P w K mg base N qual scope f cdv A outer s H E) body t ∧ t { nx := fun _ H' => Q .non H', rt := Q } (start N vs) H) :
    FnG P w K mg base CX (k + 1) f (PySem.W.fnOf name qual params body scope dV kV doc pm an cdv ct) ps sp := by
  refine ⟨len, fun A outer s H args us vs Q E hr e0 hb r hsp => ?_⟩
  have hl := len _ _ _ _ hsp
  have inK : K.In s.heap := e0.mod.kin.keeps fun b o e => (e0.bs b o e).1
  have lim : s.heap.NoLimit := e0.mod.nolimit.keeps fun b o e => (e0.bs b o e).1
  have kinds : ∀ y ∈ ps.zip us, scope.names.lookup y.1 = some .local ∨ (scope.names.lookup y.1 = some .cell ∧ ((cellsFrom (s.heap.objs.size + 1) scope.names []).lookup y.1).isSome = true) := by
    rintro ⟨n, v⟩ hy
    rcases S.par n (List.of_mem_zip hy).1 with q | q
    · exact .inl q
    · exact .inr ⟨q, PySem.W.cellsFrom_some _ _ _ (.inl q)⟩
  refine codeAny_call_function hr.rm.depth (inK _ _ lk) rfl S.co S.gen rfl (PySem.W.codeRec_of inK hcd) (hb _ _ _ _ ?_)
  refine wpAny_newFunctionEnv_cells S.kind kinds fun env he s1 x => ?_
  subst he
  refine ⟨lim.keeps x.toInCall.keep, codeAny_func ?_⟩
  obtain ⟨t, ht, hq⟩ := hbody A outer s H vs Q E (hr.deeper _) hsp
  have I : Inv (cxOf CX P w K mg base N qual scope f cdv A outer s H E) [] (start N vs) H s1 := inv_start S hr.rm.hd e0 hl r x
  refine wpAny_mono (ht.run [] s1 (start N vs) H _ I hq) (fun fl s' hs => ?_) fun e s' hs => hs
  cases fl with
  | ret u =>
    obtain ⟨v, σ', H', J, rv, q⟩ := hs
    exact ⟨v, H', J.os, J.bare, J.base, J.hok, rv, q⟩
  | next =>
    obtain ⟨σ', H', J, q⟩ := hs
    exact ⟨.non, H', J.os, J.bare, J.base, J.hok, rfl, q⟩
  | brk => obtain ⟨_, _, _, q⟩ := hs; exact q.elim
  | cont => obtain ⟨_, _, _, q⟩ := hs; exact q.elim

section
variable {P : Program} {w : World} {K : PySem.W.Frag} {mg : Str → Option Value} {base : Heap}
theorem FunOkG {CX : CXT} {x qual : Str} {st : Stmt} {f : Addr} {fd : FuncData} {N ps : List Str} {k : Nat} {sp : Sp} (F : Fun K x qual st f fd) (S : FnScope N ps (defScope st))
    (len : ∀ vs H Q E, sp vs H Q E → vs.length = ps.length)
    (hbody : ∀ (cdv : Value) (A : Around) (outer : List Env) (s : Shared) (H : Hp) (vs : List V) (Q : VK) (E : XK), RoomG k (A.deeper (envOfC qual (defScope st) s.heap.objs.size f cdv)) → sp vs H Q E →
      ∃ t, PSs (cxOf CX P w K mg base N qual (defScope st) f cdv A outer s H E) (defBody st) t ∧ t { nx := fun _ H' => Q .non H', rt := Q } (start N vs) H) : FnG P w K mg base CX (k + 1) f fd ps sp := by
  obtain ⟨oc, od, kV, doc, pm, an, cdv, ct, osl, rfl, lk, hcd⟩ := F.ex
  exact fnG_of lk hcd S len fun A outer s H vs Q E hr hsp => hbody cdv A outer s H vs Q E hr hsp
end

/-! ### calls -/
/-- the def's object in the fragment -/
def LK (K : PySem.W.Frag) (f : Addr) (fd : FuncData) : Prop := ∃ (oc : Value) (od : Option Addr) (osl : Array (Option Value)), K.lookup f = some ⟨oc, od, .func fd, osl⟩
theorem _root_.L2.Fun.lk {K : PySem.W.Frag} {x qual : Str} {st : Stmt} {f : Addr} {fd : FuncData} (F : Fun K x qual st f fd) : LK K f fd := by
  obtain ⟨oc, od, kV, doc, pm, an, cdv, ct, osl, rfl, lk, hcd⟩ := F.ex
  exact ⟨oc, od, osl, lk⟩
/-- a def of the module, by its name: it is there, its parameters bind, it keeps its promise -/
def Ok (P : Program) (w : World) (K : PySem.W.Frag) (mg : Str → Option Value) (base : Heap) (CX : CXT) (k : Nat) (x : Str) (ps : List Str) (sp : Sp) : Prop :=
  ∃ (f : Addr) (fd : FuncData), mg x = some (.ref f) ∧ PySem.W.keepIn K (.ref f) = true ∧ Binds K fd ps [] ∧ FnG P w K mg base CX k f fd ps sp ∧ LK K f fd
theorem Ok.mono {P : Program} {w : World} {K : PySem.W.Frag} {mg : Str → Option Value} {base : Heap} {CX : CXT} {j k : Nat} {x : Str} {ps : List Str} {sp : Sp} (F : Ok P w K mg base CX j x ps sp) (h : j ≤ k) : Ok P w K mg base CX k x ps sp := by
  obtain ⟨f, fd, a, b, c, d, e⟩ := F
  exact ⟨f, fd, a, b, c, d.mono h, e⟩
section
variable {X : Cx} {CX : CXT} {k : Nat} {f : Addr} {fd : FuncData} {ps : List Str} {sp : Sp} {E : L2.St → XK} {x : Str} {p pos : Pos} {e : Expr} {es : List Expr} {t : TA}
theorem runG {pins : List (Addr × Obj)} {σ : L2.St} {H : Hp} {s : Shared} {Q : VK} {us : List Value} {vs : List V} (F : FnG X.prog X.w X.K X.mg X.base CX k f fd ps sp) (hr : RoomG k X.A)
    (hb : Binds X.K fd ps []) (hx : PassesAt CX X σ (E σ)) (I : Inv X pins σ H s) (r : Vals vs us) (h : sp vs H Q (E σ)) :
    wpAny (model X.prog X.w) X.A (call (.ref f) us) (EP X pins σ Q) X.xe s := by
  have hl : us.length = ps.length := r.length.symm.trans (F.len _ _ _ _ h)
  have b : BindsTo s fd ⟨us, []⟩ (ps.zip us) := by
    have b := hb s us I.kIn (by rw [List.append_nil, hl])
    rw [List.append_nil] at b
    exact b
  refine wpAny_call (codeAny_mono (F.run X.A X.stack s H ⟨us, []⟩ us vs Q (E σ) hr I.env0 b r h) fun res s' hq => ?_)
  match res, hq with
  | .error e, hq => exact hx pins H s e s' I hq
  | .ok (.ret u), hq => exact I.after hq
  | .ok .next, hq => exact hq.elim
  | .ok .brk, hq => exact hq.elim
  | .ok .cont, hq => exact hq.elim
/-- f(e, ..) -/
theorem pe_callG (F : Ok X.prog X.w X.K X.mg X.base CX k x ps sp) (hr : RoomG k X.A) (hx : ∀ σ, PassesAt CX X σ (E σ)) (ha : PA X (e :: es) t) (hg : Gl X x := by rfl)
    (hdb : (x == ("__debug__" : Str)) = false := by decide) (he : starEach (e :: es) X.env = (false, eval e X.env) :: starEach es X.env := by rfl)
    (hpl : (backTo pos (starEach es X.env)).any (·.1) = false := by rfl) : PE X (.Call (.Name x p) (e :: es) [] pos) (tCallS sp E t) := by
  obtain ⟨f, fd, hm, hk, hb, F, _⟩ := F
  refine ⟨fun pins s σ H Q I h => wpAny_Call_Name_kw (ld_glob I hg hm (PySem.W.callWith_K (h₀ := X.base) I.ok.mod.kin hk ?_ he hpl) hdb)⟩
  exact thn (ha.run pos pins s σ H _ I h) fun us s1 ⟨vs, H1, I1, r, q⟩ => ⟨I1.kIn, runG F hr hb (hx σ) I1 r q⟩
/-- f() -/
theorem pe_callG0 (F : Ok X.prog X.w X.K X.mg X.base CX k x ps sp) (hr : RoomG k X.A) (hx : ∀ σ, PassesAt CX X σ (E σ)) (hg : Gl X x := by rfl)
    (hdb : (x == ("__debug__" : Str)) = false := by decide) : PE X (.Call (.Name x p) [] [] pos) (tCallS sp E tNil) := by
  obtain ⟨f, fd, hm, hk, hb, F, _⟩ := F
  exact ⟨fun pins s σ H Q I h => wpAny_Call_Name_kw (ld_glob I hg hm (PySem.W.callWith_K0 I.kIn hk (runG (us := []) F hr hb (hx σ) I .nil h)) hdb)⟩
/-- no exception leaves the callee -/
theorem pas0 {X : Cx} (σ : L2.St) : PassesAt CX0 X σ (fun _ _ _ => False) := fun _ _ _ _ _ _ h => h.elim
end

/-! ### repr -/
section
variable {X : Cx}
/-- repr(x), x data at any depth -/
def rRepr (K : PySem.W.Frag) : List V → Hp → VK → Prop := fun xs H Q => ∃ x d, xs = [x] ∧ Dp K H x d ∧ d.showable = true ∧ d.depth < 60 ∧ d.shown.length ≤ sizeLine ∧ Q (.str d.shown) H
mutual
theorem dp_noDict {K : PySem.W.Frag} {H : Hp} : ∀ {v : V} {d : PyData}, Dp K H v d → d.hasDict = false
  | _, _, .non => by simp only [PyData.hasDict]
  | _, _, .bl _ => by simp only [PyData.hasDict]
  | _, _, .int _ => by simp only [PyData.hasDict]
  | _, _, .str _ => by simp only [PyData.hasDict]
  | _, _, .lst _ h => by simp only [PyData.hasDict]; exact dpAll_noDict h
  | _, _, .tup _ h => by simp only [PyData.hasDict]; exact dpAll_noDict h
theorem dpAll_noDict {K : PySem.W.Frag} {H : Hp} : ∀ {vs : List V} {ds : List PyData}, DpAll K H vs ds → PyData.hasDictAll ds = false
  | _, _, .nil => by simp only [PyData.hasDictAll]
  | _, _, .cons h r => by simp only [PyData.hasDictAll, dp_noDict h, dpAll_noDict r, Bool.or_false]
end
theorem call_repr (gd : X.A.guards = some []) (hu : X.A.units + 64 < cLine) : CallR X (.builtin "repr") (rRepr X.K) := by
  intro pins s σ H xs us Q I r h
  obtain ⟨x, d, rfl, hd, hs, hk, hz, q⟩ := h
  obtain ⟨u, rfl, ru⟩ := vals1 r
  obtain ⟨as, rd⟩ := Dp.reads I d x u hd ru
  have nd := PyData.noDict_hsm (as := as) (dp_noDict hd)
  cases hd with
  | non =>
    cases (show u = Value.none from ru)
    exact PySem.P.repr_of_none ⟨.str _, H, I.tok _, ⟨_, rfl⟩, by simpa only [PyData.shown] using q⟩
  | bl b =>
    cases (show u = Value.bool b from ru)
    exact PySem.P.repr_of_bool ⟨.str _, H, I.tok _, ⟨_, rfl⟩, by simpa only [PyData.shown] using q⟩
  | int i =>
    obtain ⟨t, rfl⟩ := ru
    exact PySem.P.repr_of_int (by simpa [PyData.showable] using hs) ⟨.str _, H, I.tok _, ⟨_, rfl⟩, by simpa only [PyData.shown] using q⟩
  | str y =>
    obtain ⟨t, rfl⟩ := ru
    exact PySem.P.repr_of_str ⟨.str _, H, I.tok _, ⟨_, rfl⟩, by simpa only [PyData.shown] using q⟩ (by simpa only [PyData.shown] using hz)
  | lst _ _ =>
    cases (show u = Value.ref _ from ru)
    exact repr_of_reads' rd hs nd gd (by omega) (fun _ _ e => e) (fun h' u tk hk => ⟨.str _, H, I.kept hk, ⟨_, rfl⟩, q⟩) hz
  | tup _ _ =>
    cases (show u = Value.ref _ from ru)
    exact repr_of_reads' rd hs nd gd (by omega) (fun _ _ e => e) (fun h' u tk hk => ⟨.str _, H, I.kept hk, ⟨_, rfl⟩, q⟩) hz
end
/-- the law's own list: known by its object, or written -/
def ScrL (K : PySem.W.Frag) (H : Hp) (a : Addr) (xs : List V) : Prop := ∃ its : List Value, Vals xs its ∧ xs.length ≤ sizeLine ∧
  (H a = some (.frz { cls := .type "list", data := .seq its.toArray } (.lst xs)) ∨ K.lookup a = some { cls := .type "list", data := .seq its.toArray })
theorem ScrL.sq {K : PySem.W.Frag} {H : Hp} {a : Addr} {xs : List V} (h : ScrL K H a xs) : SqL K H a xs := by
  obtain ⟨its, r, z, h | h⟩ := h
  · exact .inl (.inr ⟨_, h⟩)
  · have e := r.length
    exact .inr ⟨_, its.toArray, _, h, rfl, rfl, rfl, by simp; omega, by simpa using r⟩
theorem ScrL.obj {X : Cx} {pins : List (Addr × Obj)} {σ : L2.St} {H : Hp} {s : Shared} {a : Addr} {xs : List V} (I : Inv X pins σ H s) (h : ScrL X.K H a xs) : ∃ its : List Value, Vals xs its ∧ s.heap.get? a = some { cls := .type "list", data := .seq its.toArray } := by
  obtain ⟨its, r, z, h | h⟩ := h
  · obtain ⟨e, _⟩ := I.hok a _ h
    exact ⟨its, r, e⟩
  · exact ⟨its, r, I.kIn a _ h⟩
/-- list + list, the left one the law's own -/
def rCatS (K : PySem.W.Frag) : R2 := fun x y H Q => ∃ l b xs zs, x = .ref l ∧ y = .ref b ∧ ScrL K H l xs ∧ H b = some (.lst zs) ∧ xs.length + zs.length ≤ sizeLine ∧ ∀ p, H p = none → Q (.ref p) (upd H p (.lst (xs ++ zs)))
theorem op_catS {X : Cx} : OpR X (binaryOp .Add) (rCatS X.K) := by
  intro pins s σ H x y v u Q I rx ry h
  obtain ⟨l, b, xs, zs, rfl, rfl, hS, hB, hz, q⟩ := h
  cases rx
  cases ry
  obtain ⟨its, r, e⟩ := ScrL.obj I hS
  obtain ⟨_, its2, n2, r2, hl2, e2⟩ := I.lstM hB
  have hl := r.length
  refine PySem.P.add_list e e2 ?_ (by rw [List.size_toArray, List.size_toArray]; omega)
  rw [show its.toArray ++ its2.toArray = (its ++ its2).toArray by simp]
  exact ⟨.ref _, _, I.lnew (t' := s.toks) (r.append r2) (by rw [List.length_append]; omega), rfl, q _ I.fresh⟩
end Hz

/-! Hz, the end of a law: from the promise of the law's def to the claim. -/
namespace Hz
open PySem PySem.Spec PyProof.Rows L2 RZ

/-- what is tracked at the law's entry: the script alone (by its object), or nothing -/
def entryHp (a : Addr) (o : Obj) (xs : List V) (own : Bool) : Hp := fun b => if own = true ∧ b = a then some (.frz o (.lst xs)) else none

theorem law_runs {P : Program} {w : World} {K : PySem.W.Frag} {mg mb : Str → Option Value} {CX : CXT} {k : Nat} {fa a : Addr} {name x : Str} {sp : Sp} {s₁ : Shared} {vs : List Value} {ns : List Int}
    (inK : K.In s₁.heap) (hns : s₁.heap.Ns mainGlobals mg) (hb : s₁.heap.Ns builtinsNs mb) (hbb : ∀ x : Str, x ≠ "__name__" → mb x = bootBuiltins x) (hlim : s₁.heap.NoLimit)
    (hg : s₁.gens = #[]) (ha : s₁.heap.get? a = some { cls := .type "list", data := .seq vs.toArray }) (hi : IntsAre vs ns) (hl : ns.length ≤ sizeLine) (hr : RoomG k callerA)
    (hfa : mg name = some (.ref fa)) (F : ∀ base : Heap, K.In base → base.Ns mainGlobals mg → Ok P w K mg base CX k name [x] sp)
    (hsp : ∀ H : Hp, Only H → ScrL K H a (ns.map V.int) → sp [.ref a] H (fun v _ => v = .bl true) fun _ _ _ => False) (hCX : ∀ H e s', CX [] H s₁ (fun _ _ _ => False) e s' → False) :
    codeAny (model P w) callerA (.call (.ref fa) ⟨[.ref a], []⟩) (fun r s' => r = .ok (.ret (.bool true)) ∧ OldK s₁.heap s'.heap ∧ s'.os = s₁.os ∧ AllBare s'.gens) s₁ := by
  have rv := vals_ints hi
  -- H: the abstract heap at the entry
  have main : ∀ H : Hp, Only H → ScrL K H a (ns.map V.int) → HOk P w H s₁.heap → (∀ b, H b ≠ none → b = a) → (H a ≠ none → K.lookup a = none) →
      codeAny (model P w) callerA (.call (.ref fa) ⟨[.ref a], []⟩) (fun r s' => r = .ok (.ret (.bool true)) ∧ OldK s₁.heap s'.heap ∧ s'.os = s₁.os ∧ AllBare s'.gens) s₁ := by
    intro H only sq hok onlyA apart
    have off : ∀ {b : Addr} {o : Obj}, s₁.heap.get? b = some o → (∀ w n, o.data ≠ .seq w n) → H b = none := by
      intro b o e nd
      cases q : H b with
      | none => rfl
      | some u =>
        obtain rfl := onlyA b (by rw [q]; simp)
        rw [ha] at e
        cases e
        exact absurd rfl (nd _ _)
    have ns' : ∀ {b : Addr} {m : Str → Option Value}, s₁.heap.Ns b m → (hidT s₁.heap H).Ns b m := by
      rintro b m ⟨o, es, ep, e, d, r⟩
      exact ⟨o, es, ep, hidT_get e (off e fun w n z => by rw [d] at z; cases z), d, r⟩
    have kb : K.In (hidT s₁.heap H) := by
      intro b o e
      refine hidT_get (inK b o e) ?_
      cases q : H b with
      | none => rfl
      | some u =>
        have z := onlyA b (by rw [q]; simp)
        rw [z] at q e
        have z2 := apart (by rw [q]; simp)
        rw [z2] at e
        cases e
    have md : Mod K mg (hidT s₁.heap H) := ⟨kb, ns' hns, ⟨mb, ns' hb, hbb⟩, let ⟨mc, h1, h2⟩ := hlim; ⟨mc, ns' h1, h2⟩⟩
    have noF : ∀ b, b ∉ frs [] := fun b z => by cases z
    have e0 : Env0 P w K mg (hidT s₁.heap H) callerA [] s₁ H := ⟨rfl, md, fun b o e => of_hidT e, Nat.le_of_eq (hidT_size _ _), trivial, fun b z => (noF b z).elim, hok, .of_eq hg⟩
    obtain ⟨f, fd, hf, _, hb, G, _⟩ := F _ kb (ns' hns)
    rw [hfa] at hf
    cases hf
    refine codeAny_mono (G.run callerA [] s₁ H ⟨[.ref a], []⟩ [.ref a] [.ref a] _ _ hr e0 (hb s₁ [.ref a] inK rfl) (.cons rfl .nil) (hsp H only sq)) fun r s' h => ?_
    match r, h with
    | .error e, h => exact (hCX H e s' h).elim
    | .ok .next, h => exact h.elim
    | .ok .brk, h => exact h.elim
    | .ok .cont, h => exact h.elim
    | .ok (.ret u), h =>
      obtain ⟨v, H', os, bare, un, hok', rv', q⟩ := h
      obtain rfl : v = .bl true := q
      obtain rfl : u = Value.bool true := rv'
      refine ⟨rfl, OldK.of_keep fun b o e => ?_, os, bare⟩
      cases q : H b with
      | none => exact un.keep b o e q (noF b) (by simp)
      | some t =>
        rcases only b with z | ⟨ob, xs, z⟩
        · rw [q] at z; cases z
        · obtain ⟨e1, _⟩ := hok b _ z
          obtain ⟨e2, _⟩ := hok' b _ (un.frzs b ob _ z)
          rw [e] at e1
          cases e1
          exact e2
  have vsz := hi.length
  cases hk : K.lookup a with
  | some o =>
    have e := inK a o hk
    rw [ha] at e
    cases e
    refine main (fun _ => none) (fun _ => .inl rfl) ⟨vs, rv, by rw [List.length_map]; exact hl, .inr hk⟩ (fun b u z => by cases (show (none : Option HO) = some u from z)) (fun b z => absurd rfl z) fun z => absurd rfl z
  | none =>
    have at_ : entryHp a { cls := .type "list", data := .seq vs.toArray } (ns.map V.int) true a = some (.frz { cls := .type "list", data := .seq vs.toArray } (.lst (ns.map V.int))) := by
      unfold entryHp; simp
    have else_ : ∀ b, b ≠ a → entryHp a { cls := .type "list", data := .seq vs.toArray } (ns.map V.int) true b = none := fun b hb => by
      unfold entryHp; simp [hb]
    refine main (entryHp a { cls := .type "list", data := .seq vs.toArray } (ns.map V.int) true) (fun b => ?_) ⟨vs, rv, by rw [List.length_map]; exact hl, .inl at_⟩ (fun b u z => ?_) (fun b z => ?_) fun _ => hk
    · by_cases hb : b = a
      · subst hb; exact .inr ⟨_, _, at_⟩
      · exact .inl (else_ b hb)
    · by_cases hb : b = a
      · subst hb
        rw [at_] at z
        cases z
        exact ⟨ha, by rw [List.length_map]; exact hl, vs, _, rv, ha⟩
      · rw [else_ b hb] at z; cases z
    · exact Decidable.byContradiction fun hb => z (else_ b hb)

/-- the claim, from the promise of the law's def; the bits of the script's ints are told -/
theorem walkG {l : PySem.W.OpenLaw} {n k : Nat} {q : Program} {loose : List Str} {XP : (Str → Option Value) → Heap → Prop} {YP : World → Heap → Prop} {d : DefRec} {K : Params → PySem.W.Frag} {CX : World → CXT} {sp : World → Sp} {x : Str}
    (hn : l.most = some n) (hn2 : n ≤ sizeLine) (hdf : d.params.defaults = []) (hr : RoomG k callerA) (hY : ∀ (w : World) (h : Heap), YP w h → (K w.params).In h)
    (F : ∀ (w : World) (mg : Str → Option Value) (fa : Addr) (h : Heap), (K w.params).In h → h.Ns mainGlobals mg → mg d.name = some (.ref fa) →
      ∀ base : Heap, (K w.params).In base → base.Ns mainGlobals mg → Ok l.prog w (K w.params) mg base (CX w) k d.name [x] (sp w))
    (hsp : ∀ (w : World) (H : Hp) (a : Addr) (ns : List Int), ns.length ≤ n → (∀ z ∈ ns, Builtin.Int.intBits z ≤ 1048576) → Only H → ScrL (K w.params) H a (ns.map V.int) → sp w [.ref a] H (fun v _ => v = .bl true) fun _ _ _ => False)
    (hCX : ∀ (w : World) (H : Hp) (s : Shared) (e : Value) (s' : Shared), CX w [] H s (fun _ _ _ => False) e s' → False) :
    PySem.W.WalkO q loose XP YP l.row.toRowW d [] (fun f vs => PySem.call f vs) := by
  refine Att.attach_callB hn hdf fun w s₀ s₁ mg mb fa o pm cd doc a vs ns G Y ho hd hcd hmg hobj hints hlen hbits hg => ?_
  have inK := hY w _ Y
  have ok := F w mg fa _ inK G.T.g hmg
  exact law_runs inK G.T.g G.T.b G.T.builtins G.T.nolimit hg hobj hints (Nat.le_trans hlen hn2) hr hmg ok (fun H hO hS => hsp w H a ns hlen hbits hO hS) fun H e s' => hCX w H s₁ e s'
end Hz

/-! Hz, part B: what is known of the heap as a ledger; readings walked from the left. -/
namespace Hz
open PySem PySem.Spec PyProof.Rows L2 RZ
abbrev SS := L2.St
abbrev Lg := List (Addr × HO)
/-- the heap holds the ledger; no address twice -/
structure Led (H : Hp) (L : Lg) : Prop where
  has : ∀ p ∈ L, H p.1 = some p.2
  nd : (L.map (·.1)).Nodup
/-- (a, o) stands in L, R is the rest -/
inductive Pick (a : Addr) (o : HO) : Lg → Lg → Prop where
  | head {R : Lg} : Pick a o ((a, o) :: R) R
  | tail {x : Addr × HO} {L R : Lg} : Pick a o L R → Pick a o (x :: L) (x :: R)
/-- M is part of L -/
inductive Sub : Lg → Lg → Prop where
  | refl {L : Lg} : Sub L L
  | drop {x : Addr × HO} {L M : Lg} : Sub L M → Sub (x :: L) M
  | take {a : Addr} {o : HO} {L R M : Lg} : Pick a o L R → Sub R M → Sub L ((a, o) :: M)
theorem Pick.perm {a : Addr} {o : HO} {L R : Lg} (h : Pick a o L R) : L.Perm ((a, o) :: R) := by
  induction h with
  | head => exact .refl _
  | tail _ ih => exact (ih.cons _).trans (.swap _ _ _)
theorem Led.perm {H : Hp} {L M : Lg} (l : Led H L) (p : L.Perm M) : Led H M :=
  ⟨fun x hx => l.has x (p.mem_iff.mpr hx), (p.map (·.1)).nodup_iff.mp l.nd⟩
theorem Led.pick {H : Hp} {a : Addr} {o : HO} {L R : Lg} (l : Led H L) (p : Pick a o L R) : Led H ((a, o) :: R) := l.perm p.perm
theorem Led.get {H : Hp} {a : Addr} {o : HO} {L R : Lg} (l : Led H L) (p : Pick a o L R) : H a = some o := (l.pick p).has (a, o) (.head _)
theorem Led.tail {H : Hp} {x : Addr × HO} {L : Lg} (l : Led H (x :: L)) : Led H L :=
  ⟨fun p hp => l.has p (.tail _ hp), (List.nodup_cons.mp l.nd).2⟩
theorem Led.put {H : Hp} {a : Addr} {o o' : HO} {R : Lg} (l : Led H ((a, o) :: R)) : Led (upd H a o') ((a, o') :: R) := by
  have n := (List.nodup_cons.mp l.nd).1
  refine ⟨fun p hp => ?_, l.nd⟩
  rcases List.mem_cons.mp hp with rfl | hp
  · exact upd_same
  · rw [upd_ne (fun e => n (List.mem_map.mpr ⟨p, hp, e⟩))]
    exact l.has p (.tail _ hp)
theorem Led.new {H : Hp} {p : Addr} {o : HO} {L : Lg} (l : Led H L) (h : H p = none) : Led (upd H p o) ((p, o) :: L) := by
  have ne : ∀ q ∈ L, q.1 ≠ p := fun q hq e => by
    have z := l.has q hq
    rw [e, h] at z
    cases z
  refine ⟨fun q hq => ?_, List.nodup_cons.mpr ⟨fun hm => ?_, l.nd⟩⟩
  · rcases List.mem_cons.mp hq with rfl | hq
    · exact upd_same
    · rw [upd_ne (ne q hq)]
      exact l.has q hq
  · obtain ⟨q, hq, e⟩ := List.mem_map.mp hm
    exact ne q hq e
theorem Led.cons {H : Hp} {a : Addr} {o : HO} {R M : Lg} (l : Led H ((a, o) :: R)) (s : ∀ x ∈ M.map (·.1), x ∈ R.map (·.1)) (m : Led H M) : Led H ((a, o) :: M) :=
  ⟨fun p hp => (List.mem_cons.mp hp).elim (fun e => by rw [e]; exact l.has _ (.head _)) (m.has p), List.nodup_cons.mpr ⟨fun h => (List.nodup_cons.mp l.nd).1 (s _ h), m.nd⟩⟩
theorem Sub.mem {L M : Lg} (s : Sub L M) : ∀ x ∈ M, x ∈ L := by
  induction s with
  | refl => exact fun _ h => h
  | drop _ ih => exact fun x h => .tail _ (ih x h)
  | take p _ ih =>
    intro x h
    rcases List.mem_cons.mp h with rfl | h
    · exact p.perm.mem_iff.mpr (.head _)
    · exact p.perm.mem_iff.mpr (.tail _ (ih x h))
theorem Led.sub {H : Hp} {L M : Lg} (l : Led H L) (s : Sub L M) : Led H M := by
  induction s with
  | refl => exact l
  | drop _ ih => exact ih l.tail
  | take p s ih =>
    refine (l.pick p).cons (fun x hx => ?_) (ih (l.pick p).tail)
    obtain ⟨q, hq, e⟩ := List.mem_map.mp hx
    exact List.mem_map.mpr ⟨q, s.mem q hq, e⟩
theorem Led.nil {H : Hp} : Led H [] := ⟨fun _ h => (nomatch h), List.nodup_nil⟩

/-- from every heap that holds L -/
def Tr (L : Lg) (G : Hp → Prop) : Prop := ∀ H, Led H L → G H
theorem Tr.of {L : Lg} {G : Hp → Prop} {H : Hp} (t : Tr L G) (l : Led H L) : G H := t H l
theorem Tr.sub {L M : Lg} {G : Hp → Prop} (t : Tr M G) (s : Sub L M) : Tr L G := fun H l => t H (l.sub s)
theorem Tr.pick {a : Addr} {o : HO} {L R : Lg} {G : Hp → Prop} (p : Pick a o L R) (t : Tr ((a, o) :: R) G) : Tr L G := fun H l => t H (l.pick p)

/-- the slot i of σ becomes x -/
inductive SetAt : SS → Nat → Option V → SS → Prop where
  | zero {x y : Option V} {r : SS} : SetAt (y :: r) 0 x (x :: r)
  | succ {i : Nat} {x y : Option V} {r r' : SS} : SetAt r i x r' → SetAt (y :: r) (i + 1) x (y :: r')
theorem SetAt.eq {σ σ' : SS} {i : Nat} {x : Option V} (h : SetAt σ i x σ') : σ.set i x = σ' := by
  induction h with
  | zero => rfl
  | succ _ ih => rw [List.set_cons_succ, ih]

/-- None -/
def isNon : V → Bool
  | .non => true
  | _ => false
theorem isNon_dec (x : V) : decide (x = .non) = isNon x := by cases x <;> first | rfl | exact decide_eq_false (fun h => nomatch h)
section
variable {L R : Lg} {σ σ' : SS} {Q : VK} {QB : Bool → Hp → Prop} {QA : List V → Hp → Prop} {G : Hp → Prop} {K : PySem.W.Frag} {ta tb tc te tl : TE} {t u : TT} {tr : TA} {v x y : V} {i : Nat} {a p : Addr} {xs : List V}
/-! ### expressions -/
theorem t_var (h : σ[i]? = some (some v)) (k : Tr L fun H => Q v H) : Tr L fun H => tVar i σ H Q := fun H l => ⟨v, h, k H l⟩
theorem t_c (k : Tr L fun H => Q v H) : Tr L fun H => tC v σ H Q := k
theorem t_op {r : R2} (k : Tr L fun H => ta σ H fun x H1 => tb σ H1 fun y H2 => r x y H2 Q) : Tr L fun H => tOp r ta tb σ H Q := k
theorem t_un {r : V → Hp → VK → Prop} (k : Tr L fun H => ta σ H fun x H1 => r x H1 Q) : Tr L fun H => tUn r ta σ H Q := k
theorem t_rI {C : Int → Int → Prop} {g : Int → Int → V} {m n : Int} (hc : C m n) (k : Tr L fun H => Q (g m n) H) : Tr L fun H => rI C g (.int m) (.int n) H Q := fun H l => ⟨m, n, rfl, rfl, hc, k H l⟩
theorem t_rI0 {g : Int → Int → V} {m n : Int} (k : Tr L fun H => Q (g m n) H) : Tr L fun H => rI0 g (.int m) (.int n) H Q := fun H l => ⟨m, n, rfl, rfl, k H l⟩
theorem t_rU {g : Int → V} {m : Int} (k : Tr L fun H => Q (g m) H) : Tr L fun H => rU g (.int m) H Q := fun H l => ⟨m, rfl, k H l⟩
theorem dec_int (m n : Int) : decide (V.int m = V.int n) = decide (m = n) := by simp
theorem dec_bl (m n : Bool) : decide (V.bl m = V.bl n) = (m == n) := by cases m <;> cases n <;> rfl
theorem dec_str (m n : Str) : decide (V.str m = V.str n) = decide (m = n) := by simp
theorem t_eqI {m n : Int} (k : Tr L fun H => Q (.bl (decide (m = n))) H) : Tr L fun H => rEq (.int m) (.int n) H Q := fun H l => ⟨rfl, by rw [dec_int]; exact k H l⟩
theorem t_eqB {m n : Bool} (k : Tr L fun H => Q (.bl (m == n)) H) : Tr L fun H => rEq (.bl m) (.bl n) H Q := fun H l => ⟨rfl, by rw [dec_bl]; exact k H l⟩
theorem t_eqS {m n : Str} (k : Tr L fun H => Q (.bl (decide (m = n))) H) : Tr L fun H => rEq (.str m) (.str n) H Q := fun H l => ⟨rfl, by rw [dec_str]; exact k H l⟩
theorem t_eq (hs : scal x y = true) (k : Tr L fun H => Q (.bl (decide (x = y))) H) : Tr L fun H => rEq x y H Q := fun H l => ⟨hs, k H l⟩
theorem t_neI {m n : Int} (k : Tr L fun H => Q (.bl (!decide (m = n))) H) : Tr L fun H => rNe (.int m) (.int n) H Q := fun H l => ⟨rfl, by rw [dec_int]; exact k H l⟩
theorem t_neB {m n : Bool} (k : Tr L fun H => Q (.bl (!(m == n))) H) : Tr L fun H => rNe (.bl m) (.bl n) H Q := fun H l => ⟨rfl, by rw [dec_bl]; exact k H l⟩
theorem t_neS {m n : Str} (k : Tr L fun H => Q (.bl (!decide (m = n))) H) : Tr L fun H => rNe (.str m) (.str n) H Q := fun H l => ⟨rfl, by rw [dec_str]; exact k H l⟩
theorem t_ne (hs : scal x y = true) (k : Tr L fun H => Q (.bl (!decide (x = y))) H) : Tr L fun H => rNe x y H Q := fun H l => ⟨hs, k H l⟩
theorem t_isN (k : Tr L fun H => Q (.bl (isNon x)) H) : Tr L fun H => rIsN x .non H Q := fun H l => ⟨rfl, by rw [isNon_dec]; exact k H l⟩
theorem t_notN (k : Tr L fun H => Q (.bl (!isNon x)) H) : Tr L fun H => rNotN x .non H Q := fun H l => ⟨rfl, by rw [isNon_dec]; exact k H l⟩
/-- a chain a < b < c -/
theorem t_chain {r r' : R2} (k : Tr L fun H => ta σ H fun x H1 => tb σ H1 fun y H2 => r x y H2 fun z H3 => ∃ k, z = .bl k ∧ (if k = true then tc σ H3 fun w' H4 => r' y w' H4 Q else Q (.bl false) H3)) : Tr L fun H => tChain r r' ta tb tc σ H Q := k
/-! ### tests -/
theorem t_test (k : Tr L fun H => te σ H fun x H1 => ∃ c, x = .bl c ∧ QB c H1) : Tr L fun H => tTest te σ H QB := k
theorem t_B (k : Tr L fun H => te σ H fun x H1 => ∃ c, x = .bl c ∧ QB c H1) : Tr L fun H => tB te σ H QB := k
theorem t_bl {b : Bool} {G : Bool → Hp → Prop} (k : Tr L fun H => G b H) : Tr L fun H => ∃ c, V.bl b = .bl c ∧ G c H := fun H l => ⟨b, rfl, k H l⟩
theorem t_and (k : Tr L fun H => t σ H fun c H1 => if c = true then u σ H1 QB else QB false H1) : Tr L fun H => tAnd t u σ H QB := k
theorem t_or (k : Tr L fun H => t σ H fun c H1 => if c = true then QB true H1 else u σ H1 QB) : Tr L fun H => tOr t u σ H QB := k
theorem t_not (k : Tr L fun H => t σ H fun c H1 => QB (!c) H1) : Tr L fun H => tNot t σ H QB := k
theorem t_andV (k : Tr L fun H => ta σ H fun x H1 => ∃ c, x = .bl c ∧ if c = true then tb σ H1 Q else Q (.bl false) H1) : Tr L fun H => tAndV ta tb σ H Q := k
theorem t_orV (k : Tr L fun H => ta σ H fun x H1 => ∃ c, x = .bl c ∧ if c = true then Q (.bl true) H1 else tb σ H1 Q) : Tr L fun H => tOrV ta tb σ H Q := k
theorem t_notV (k : Tr L fun H => ta σ H fun x H1 => ∃ c, x = .bl c ∧ Q (.bl (!c)) H1) : Tr L fun H => tNotV ta σ H Q := k
theorem t_ifE (k : Tr L fun H => t σ H fun c H1 => if c = true then ta σ H1 Q else tb σ H1 Q) : Tr L fun H => tIf t ta tb σ H Q := k
theorem t_ite {b : Bool} {G1 G2 : Hp → Prop} (h1 : b = true → Tr L G1) (h2 : b = false → Tr L G2) : Tr L fun H => if b = true then G1 H else G2 H := fun H l => by
  cases b with
  | true => rw [if_pos rfl]; exact h1 rfl H l
  | false => rw [if_neg Bool.false_ne_true]; exact h2 rfl H l
theorem t_iteD {c : Prop} [Decidable c] {G1 G2 : Hp → Prop} (h1 : c → Tr L G1) (h2 : ¬ c → Tr L G2) : Tr L fun H => if decide c = true then G1 H else G2 H :=
  t_ite (fun h => h1 (of_decide_eq_true h)) fun h => h2 (of_decide_eq_false h)
theorem t_iteND {c : Prop} [Decidable c] {G1 G2 : Hp → Prop} (h1 : ¬ c → Tr L G1) (h2 : c → Tr L G2) : Tr L fun H => if (!decide c) = true then G1 H else G2 H :=
  t_ite (fun h => h1 (by simpa using h)) fun h => h2 (by simpa using h)
theorem t_iteT {G1 G2 : Hp → Prop} (k : Tr L G1) : Tr L fun H => if true = true then G1 H else G2 H := fun H l => iteT (k H l)
theorem t_iteF {G1 G2 : Hp → Prop} (k : Tr L G2) : Tr L fun H => if false = true then G1 H else G2 H := fun H l => iteF (k H l)
theorem t_ifT {b : Bool} {G1 G2 : Hp → Prop} (h : b = true) (k : Tr L G1) : Tr L fun H => if b = true then G1 H else G2 H := t_ite (fun _ => k) fun h2 => absurd (h.symm.trans h2) (by decide)
theorem t_ifF {b : Bool} {G1 G2 : Hp → Prop} (h : b = false) (k : Tr L G2) : Tr L fun H => if b = true then G1 H else G2 H := t_ite (fun h2 => absurd (h2.symm.trans h) (by decide)) fun _ => k
/-! ### displays, arguments -/
theorem t_nil (k : Tr L fun H => QA [] H) : Tr L fun H => tNil σ H QA := k
theorem t_cons (k : Tr L fun H => ta σ H fun x H1 => tr σ H1 fun xs H2 => QA (x :: xs) H2) : Tr L fun H => tCons ta tr σ H QA := k
def newL (xs : List V) (H : Hp) (Q : VK) : Prop := xs.length ≤ sizeLine ∧ ∀ p, H p = none → Q (.ref p) (upd H p (.lst xs))
def newT (xs : List V) (H : Hp) (Q : VK) : Prop := xs.length ≤ sizeLine ∧ ∀ p, H p = none → Q (.ref p) (upd H p (.tup xs))
theorem t_lst (k : Tr L fun H => tr σ H fun xs H1 => newL xs H1 Q) : Tr L fun H => tLst tr σ H Q := k
theorem t_tup (k : Tr L fun H => tr σ H fun xs H1 => newT xs H1 Q) : Tr L fun H => tTup tr σ H Q := k
theorem t_newL (hz : xs.length ≤ sizeLine) (k : ∀ p, Tr ((p, .lst xs) :: L) fun H => Q (.ref p) H) : Tr L fun H => newL xs H Q := fun H l => ⟨hz, fun p hp => k p _ (l.new hp)⟩
theorem t_newT (hz : xs.length ≤ sizeLine) (k : ∀ p, Tr ((p, .tup xs) :: L) fun H => Q (.ref p) H) : Tr L fun H => newT xs H Q := fun H l => ⟨hz, fun p hp => k p _ (l.new hp)⟩
/-! ### calls -/
theorem t_callS {sp : Sp} {E : SS → XK} (k : Tr L fun H => tr σ H fun vs H1 => sp vs H1 Q (E σ)) : Tr L fun H => tCallS sp E tr σ H Q := k
theorem t_CB {r : List V → Hp → VK → Prop} (k : Tr L fun H => tr σ H fun vs H1 => r vs H1 Q) : Tr L fun H => tCB r tr σ H Q := k
theorem t_BM0 {T : String} {r : V → List V → Hp → VK → Prop} (k : Tr L fun H => te σ H fun x H1 => tyV K T x H1 ∧ r x [] H1 Q) : Tr L fun H => tBM0 K T r te σ H Q := k
theorem t_BM {T : String} {r : V → List V → Hp → VK → Prop} (k : Tr L fun H => te σ H fun x H1 => tyV K T x H1 ∧ tr σ H1 fun xs H2 => r x xs H2 Q) : Tr L fun H => tBM K T r te tr σ H Q := k
theorem t_tyL (hp : Pick p (.lst xs) L R) (k : Tr L G) : Tr L fun H => tyV K "list" (.ref p) H ∧ G H := fun H l => ⟨.inl ⟨rfl, xs, .inl (.inl (l.get hp))⟩, k H l⟩
theorem t_tyS {z : Str} (k : Tr L G) : Tr L fun H => tyV K "str" (.str z) H ∧ G H := fun H l => ⟨rfl, k H l⟩
theorem t_append (hp : Pick p (.lst xs) L R) (hz : xs.length < sizeLine) (k : Tr ((p, .lst (xs ++ [y])) :: R) fun H => Q .non H) : Tr L fun H => rAppend (.ref p) [y] H Q :=
  fun H l => ⟨p, xs, y, rfl, rfl, l.get hp, hz, k _ (l.pick hp).put⟩
theorem t_popM (hp : Pick p (.lst xs) L R) (hy : xs[xs.length - 1]? = some y) (k : Tr ((p, .lst xs.dropLast) :: R) fun H => Q y H) : Tr L fun H => rPop (.ref p) [] H Q :=
  fun H l => ⟨p, xs, y, rfl, rfl, l.get hp, hy, k _ (l.pick hp).put⟩
theorem t_reverse (hp : Pick p (.lst xs) L R) (k : Tr ((p, .lst xs.reverse) :: R) fun H => Q .non H) : Tr L fun H => rReverse (.ref p) [] H Q :=
  fun H l => ⟨p, xs, rfl, rfl, l.get hp, k _ (l.pick hp).put⟩
theorem t_clear (hp : Pick p (.lst xs) L R) (k : Tr ((p, .lst []) :: R) fun H => Q .non H) : Tr L fun H => rClear (.ref p) [] H Q :=
  fun H l => ⟨p, xs, rfl, rfl, l.get hp, k _ (l.pick hp).put⟩
/-! ### subscripts, slices -/
theorem sqL (hp : Pick p (.lst xs) L R) {H : Hp} (l : Led H L) : SqL K H p xs := .inl (.inl (l.get hp))
theorem sqT (hp : Pick p (.tup xs) L R) {H : Hp} (l : Led H L) : SqT K H p xs := .inl (.inl (l.get hp))
theorem t_ixL {m : Int} (hp : Pick p (.lst xs) L R) (ha : atI xs m = some v) (k : Tr L fun H => Q v H) : Tr L fun H => rIxL K (.ref p) (.int m) H Q := fun H l => ⟨p, xs, m, v, rfl, rfl, sqL hp l, ha, k H l⟩
theorem t_ixT {m : Int} (hp : Pick p (.tup xs) L R) (ha : atI xs m = some v) (k : Tr L fun H => Q v H) : Tr L fun H => rIxT K (.ref p) (.int m) H Q := fun H l => ⟨p, xs, m, v, rfl, rfl, sqT hp l, ha, k H l⟩
theorem t_ixS {z : Str} {m : Int} {c : Nat} (hz : z.length ≤ sizeLine) (ha : atI z.cps.toList m = some c) (k : Tr L fun H => Q (.str ⟨#[c]⟩) H) : Tr L fun H => rIxS (.str z) (.int m) H Q := fun H l => ⟨z, m, c, rfl, rfl, hz, ha, k H l⟩
theorem t_slice {r : V → Option Int → Option Int → Hp → VK → Prop} {lo hi : TO} (k : Tr L fun H => te σ H fun x H1 => lo σ H1 fun l H2 => hi σ H2 fun u H3 => r x l u H3 Q) : Tr L fun H => tSl r te lo hi σ H Q := k
theorem t_noPart {QO : Option Int → Hp → Prop} (k : Tr L fun H => QO none H) : Tr L fun H => tNoPart σ H QO := k
theorem t_part {QO : Option Int → Hp → Prop} (k : Tr L fun H => te σ H fun x H1 => ∃ i, x = .int i ∧ QO (some i) H1) : Tr L fun H => tPart te σ H QO := k
theorem t_int {m : Int} {G : Int → Hp → Prop} (k : Tr L fun H => G m H) : Tr L fun H => ∃ i, V.int m = .int i ∧ G i H := fun H l => ⟨m, rfl, k H l⟩
theorem t_slL {lo hi : Option Int} (hp : Pick a (.lst xs) L R) (k : ∀ p, Tr ((p, .lst (cutV xs lo hi)) :: L) fun H => Q (.ref p) H) : Tr L fun H => rSlL K (.ref a) lo hi H Q := fun H l => ⟨a, xs, rfl, sqL hp l, fun p hp' => k p _ (l.new hp')⟩
theorem t_cat {ys : List V} {R' : Lg} {b : Addr} (hp : Pick a (.lst xs) L R) (hq : Pick b (.lst ys) L R') (hz : xs.length + ys.length ≤ sizeLine) (k : ∀ p, Tr ((p, .lst (xs ++ ys)) :: L) fun H => Q (.ref p) H) :
    Tr L fun H => rCat (.ref a) (.ref b) H Q := fun H l => ⟨a, b, xs, ys, rfl, rfl, l.get hp, l.get hq, hz, fun p hp' => k p _ (l.new hp')⟩
theorem t_rep {m : Int} (hp : Pick a (.lst xs) L R) (h1 : -(2 ^ 63) ≤ m) (h2 : m < 2 ^ 63) (hz : xs.length * m.toNat ≤ sizeLine) (k : ∀ p, Tr ((p, .lst (List.replicate m.toNat xs).flatten) :: L) fun H => Q (.ref p) H) :
    Tr L fun H => rRep (.ref a) (.int m) H Q := fun H l => ⟨a, m, xs, rfl, rfl, l.get hp, h1, h2, hz, fun p hp' => k p _ (l.new hp')⟩
/-! ### statements -/
variable {D : Ends} {s1 s2 : TS} {g : TG}
theorem t_seq (k : Tr L fun H => s1 { D with nx := s2 D } σ H) : Tr L fun H => tSeq s1 s2 D σ H := k
theorem t_next (k : Tr L fun H => D.nx σ H) : Tr L fun H => tNext D σ H := k
theorem t_brk (k : Tr L fun H => D.bk σ H) : Tr L fun H => tBreak D σ H := k
theorem t_cnt (k : Tr L fun H => D.ct σ H) : Tr L fun H => tCont D σ H := k
theorem t_asg (k : Tr L fun H => te σ H fun x H1 => g x σ H1 D.nx) : Tr L fun H => tAsg te g D σ H := k
theorem t_name {Qn : SS → Hp → Prop} (hs : SetAt σ i (some v) σ') (k : Tr L fun H => Qn σ' H) : Tr L fun H => gName i v σ H Qn := fun H l => by
  show Qn (σ.set i (some v)) H
  rw [hs.eq]; exact k H l
theorem t_aug {ti : TIp} (h : σ[i]? = some (some x)) (k : Tr L fun H => te σ H fun y H1 => ti x y H1 fun z H2 => gName i z σ H2 D.nx) : Tr L fun H => tAug i te ti D σ H := fun H l => ⟨x, h, k H l⟩
theorem t_ipI {f : Int → Int → Int} {m n : Int} (k : Tr L fun H => Q (.int (f m n)) H) : Tr L fun H => ipI f (.int m) (.int n) H Q := fun H l => ⟨m, n, rfl, rfl, k H l⟩
theorem t_par {j : Nat} (k : Tr L fun H => tr σ H fun vs H1 => ∃ v w, vs = [v, w] ∧ gName i v σ H1 fun σ3 H3 => gName j w σ3 H3 D.nx) : Tr L fun H => tPar i j tr D σ H := k
theorem t_two {w : V} {G : V → V → Hp → Prop} (k : Tr L fun H => G v w H) : Tr L fun H => ∃ x y, [v, w] = [x, y] ∧ G x y H := fun H l => ⟨v, w, rfl, k H l⟩
theorem t_drop (k : Tr L fun H => te σ H fun _ H1 => D.nx σ H1) : Tr L fun H => tDrop te D σ H := k
theorem t_ret (k : Tr L fun H => te σ H D.rt) : Tr L fun H => tRet te D σ H := k
theorem t_retN (k : Tr L fun H => D.rt .non H) : Tr L fun H => tRetN D σ H := k
theorem t_if (k : Tr L fun H => t σ H fun b H1 => if b = true then s1 D σ H1 else s2 D σ H1) : Tr L fun H => tIfS t s1 s2 D σ H := k
theorem t_sub {to ti : TE} {ts : TSet} {Qn : SS → Hp → Prop} (k : Tr L fun H => to σ H fun o H1 => ti σ H1 fun i H2 => ts o i v H2 fun H3 => Qn σ H3) : Tr L fun H => gSub to ti ts v σ H Qn := k
theorem t_setL {m : Int} {j : Nat} (hp : Pick p (.lst xs) L R) (hj : ixN xs.length m = some j) (k : Tr ((p, .lst (xs.set j v)) :: R) G) : Tr L fun H => rSetL (.ref p) (.int m) v H G :=
  fun H l => ⟨p, xs, m, j, rfl, rfl, l.get hp, hj, k _ (l.pick hp).put⟩
theorem t_tupG {n : Nat} {gs : TGs} {Qn : SS → Hp → Prop} (hp : Pick a (.tup xs) L R) (hn : xs.length = n) (k : Tr L fun H => gs xs σ H Qn) : Tr L fun H => gTup K n gs (.ref a) σ H Qn := fun H l => ⟨a, xs, rfl, sqT hp l, hn, k H l⟩
theorem t_consG {gs : TGs} {Qn : SS → Hp → Prop} (k : Tr L fun H => g v σ H fun σ1 H1 => gs xs σ1 H1 Qn) : Tr L fun H => gCons g gs (v :: xs) σ H Qn := fun H l => ⟨v, xs, rfl, k H l⟩
theorem t_nilG {Qn : SS → Hp → Prop} (k : Tr L fun H => Qn σ H) : Tr L fun H => gNil [] σ H Qn := fun H l => ⟨rfl, k H l⟩
/-! ### where one goes on -/
theorem t_nx {f b c : SS → Hp → Prop} {r : VK} (k : Tr L fun H => f σ H) : Tr L fun H => (Ends.mk f r b c).nx σ H := k
theorem t_rt {f b c : SS → Hp → Prop} {r : VK} (k : Tr L fun H => r v H) : Tr L fun H => (Ends.mk f r b c).rt v H := k
theorem t_bk {f b c : SS → Hp → Prop} {r : VK} (k : Tr L fun H => b σ H) : Tr L fun H => (Ends.mk f r b c).bk σ H := k
theorem t_ct {f b c : SS → Hp → Prop} {r : VK} (k : Tr L fun H => c σ H) : Tr L fun H => (Ends.mk f r b c).ct σ H := k
end

/-! ### what is walked -/
/-- n turns; at turn i the value v with val i v L', L' what is made for it -/
structure Wk (J : It) (n : Nat) (val : Nat → V → Lg → Prop) (Src : Lg → Prop) : Prop where
  go : ∀ L H i, Src L → Led H L → i < n → J.go i H
  yld : ∀ L H i v H', Src L → Led H L → i < n → J.yld i H v H' → ∃ L', val i v L' ∧ Led H' (L' ++ L)
  stop : ∀ L H, Src L → Led H L → J.stop n H
section
variable {K : PySem.W.Frag}
/-- the ledger reads a as the list xs -/
def InL (a : Addr) (xs : List V) (L : Lg) : Prop := ∃ R, Pick a (.lst xs) L R
theorem InL.sq {a : Addr} {xs : List V} {L : Lg} {H : Hp} (h : InL a xs L) (l : Led H L) : SqL K H a xs := let ⟨_, p⟩ := h; sqL p l
theorem led_sq_inj {H : Hp} {a : Addr} {xs ys : List V} (h : H a = some (.lst xs)) (h' : SqL K H a ys) (hk : K.lookup a = none) : ys = xs := by
  rcases h' with (h' | ⟨o, h'⟩) | ⟨o, its, n, hl, _⟩
  · rw [h] at h'; cases h'; rfl
  · rw [h] at h'; cases h'
  · rw [hk] at hl; cases hl
theorem wk_list {a : Addr} {xs : List V} : Wk (Itl K a) xs.length (fun i v L' => xs[i]? = some v ∧ L' = []) (InL a xs) where
  go := fun L H i hs l hi => ⟨xs, xs[i], hs.sq l, by simp [hi]⟩
  yld := fun L H i v H' hs l hi hy => ⟨[], ⟨hy.2 xs (hs.sq l), rfl⟩, by rw [hy.1]; exact l⟩
  stop := fun L H hs l => ⟨xs, hs.sq l, Nat.le_refl _⟩
def InT (a : Addr) (xs : List V) (L : Lg) : Prop := ∃ R, Pick a (.tup xs) L R
theorem InT.sq {a : Addr} {xs : List V} {L : Lg} {H : Hp} (h : InT a xs L) (l : Led H L) : SqT K H a xs := let ⟨_, p⟩ := h; sqT p l
theorem wk_tup {a : Addr} {xs : List V} : Wk (Itt K a) xs.length (fun i v L' => xs[i]? = some v ∧ L' = []) (InT a xs) where
  go := fun L H i hs l hi => ⟨xs, xs[i], hs.sq l, by simp [hi]⟩
  yld := fun L H i v H' hs l hi hy => ⟨[], ⟨hy.2 xs (hs.sq l), rfl⟩, by rw [hy.1]; exact l⟩
  stop := fun L H hs l => ⟨xs, hs.sq l, Nat.le_refl _⟩
theorem wk_range {lo : Int} {n : Nat} : Wk (Itr lo n) n (fun i v L' => v = .int (lo + i) ∧ L' = []) (fun _ => True) where
  go := fun L H i _ _ hi => hi
  yld := fun L H i v H' _ l hi hy => ⟨[], ⟨hy.2, rfl⟩, by rw [hy.1]; exact l⟩
  stop := fun L H _ _ => Nat.le_refl n
theorem wk_range3 {lo c : Int} {n : Nat} : Wk (Itc lo c n) n (fun i v L' => v = .int (lo + i * c) ∧ L' = []) (fun _ => True) where
  go := fun L H i _ _ hi => hi
  yld := fun L H i v H' _ l hi hy => ⟨[], ⟨hy.2, rfl⟩, by rw [hy.1]; exact l⟩
  stop := fun L H _ _ => Nat.le_refl n
theorem wk_str {z : Str} : Wk (Its z) z.cps.size (fun i v L' => (∃ c, z.cps[i]? = some c ∧ v = .str ⟨#[c]⟩) ∧ L' = []) (fun _ => True) where
  go := fun L H i _ _ hi => hi
  yld := fun L H i v H' _ l hi hy => ⟨[], ⟨hy.2, rfl⟩, by rw [hy.1]; exact l⟩
  stop := fun L H _ _ => Nat.le_refl _
theorem wk_enum {a : Addr} {xs : List V} : Wk (Ite K a) xs.length (fun i v L' => ∃ T x, v = .ref T ∧ xs[i]? = some x ∧ L' = [(T, .tup [.int (i : Nat), x])]) (InL a xs) where
  go := fun L H i hs l hi => ⟨xs, xs[i], hs.sq l, by simp [hi]⟩
  yld := fun L H i v H' hs l hi hy => by
    obtain ⟨T, x, e, n, eH, q⟩ := hy
    exact ⟨_, ⟨T, x, e, q xs (hs.sq l), rfl⟩, by rw [eH]; exact l.new n⟩
  stop := fun L H hs l => ⟨xs, hs.sq l, Nat.le_refl _⟩
theorem wk_zip {a b : Addr} {xs ys : List V} : Wk (Itz K a b) (min xs.length ys.length) (fun i v L' => ∃ T x y, v = .ref T ∧ xs[i]? = some x ∧ ys[i]? = some y ∧ L' = [(T, .tup [x, y])]) (fun L => InL a xs L ∧ InL b ys L) where
  go := fun L H i hs l hi => by
    have h1 : i < xs.length := by omega
    have h2 : i < ys.length := by omega
    exact ⟨xs, ys, xs[i], ys[i], hs.1.sq l, hs.2.sq l, by simp [h1], by simp [h2]⟩
  yld := fun L H i v H' hs l hi hy => by
    obtain ⟨T, x, y, e, n, eH, q1, q2⟩ := hy
    exact ⟨_, ⟨T, x, y, e, q1 xs (hs.1.sq l), q2 ys (hs.2.sq l), rfl⟩, by rw [eH]; exact l.new n⟩
  stop := fun L H hs l => ⟨xs, ys, hs.1.sq l, hs.2.sq l, by omega⟩
end

section
variable {K : PySem.W.Frag}
theorem wk_zipT {a b : Addr} {xs ys : List V} : Wk (ItzT K a b) (min xs.length ys.length) (fun i v L' => ∃ T x y, v = .ref T ∧ xs[i]? = some x ∧ ys[i]? = some y ∧ L' = [(T, .tup [x, y])]) (fun L => InT a xs L ∧ InT b ys L) where
  go := fun L H i hs l hi => by
    have h1 : i < xs.length := by omega
    have h2 : i < ys.length := by omega
    exact ⟨xs, ys, xs[i], ys[i], hs.1.sq l, hs.2.sq l, by simp [h1], by simp [h2]⟩
  yld := fun L H i v H' hs l hi hy => by
    obtain ⟨T, x, y, e, n, eH, q1, q2⟩ := hy
    exact ⟨_, ⟨T, x, y, e, q1 xs (hs.1.sq l), q2 ys (hs.2.sq l), rfl⟩, by rw [eH]; exact l.new n⟩
  stop := fun L H hs l => ⟨xs, ys, hs.1.sq l, hs.2.sq l, by omega⟩
end
/-! ### for -/
section
variable {L : Lg} {σ : SS} {K : PySem.W.Frag} {te : TE} {tr : TA} {wi : TI} {g : TG} {tb : TS} {D : Ends}
def forK (g : TG) (tb : TS) (D : Ends) (σ : SS) (J : It) (H1 : Hp) : Prop := ∃ W : Nat → Nat → SS → Hp → Prop, (∃ m, W 0 m σ H1) ∧ ∀ i m σ H, W i m σ H →
  (J.stop i H ∧ D.nx σ H) ∨ (J.go i H ∧ ∃ N : SS → Hp → Prop, (∀ σ' H', N σ' H' → ∃ m', m' < m ∧ W (i + 1) m' σ' H') ∧ ∀ x H', J.yld i H x H' → g x σ H' fun σ2 H2 => tb { D with nx := N, ct := N, bk := D.nx } σ2 H2)
theorem t_for (k : Tr L fun H => wi σ H (forK g tb D σ)) : Tr L fun H => tFor wi g tb D σ H := k
/-- the state at a turn's end -/
def Pst {α : Type} (S : Nat → α → SS) (M : Nat → α → Lg) (I : Nat → α → Prop) (i : Nat) (σ : SS) (H : Hp) : Prop := ∃ y, I i y ∧ σ = S i y ∧ Led H (M i y)
theorem t_pst {α : Type} {S : Nat → α → SS} {M : Nat → α → Lg} {I : Nat → α → Prop} {i : Nat} (y : α) (hI : I i y) (hσ : σ = S i y) (hM : Sub L (M i y)) : Tr L fun H => Pst S M I i σ H := fun H l => ⟨y, hI, hσ, l.sub hM⟩
theorem t_forK {α : Type} {J : It} {n : Nat} {val : Nat → V → Lg → Prop} {Src : Lg → Prop} (wk : Wk J n val Src) (S : Nat → α → SS) (M : Nat → α → Lg) (I : Nat → α → Prop)
    (h0 : ∃ y, I 0 y ∧ σ = S 0 y ∧ Sub L (M 0 y)) (hsrc : ∀ i y, I i y → Src (M i y))
    (hs : ∀ i y v L', i < n → I i y → val i v L' → Tr (L' ++ M i y) fun H => g v (S i y) H fun σ2 H2 => tb { D with nx := Pst S M I (i + 1), ct := Pst S M I (i + 1), bk := D.nx } σ2 H2)
    (hd : ∀ y, I n y → Tr (M n y) fun H => D.nx (S n y) H) : Tr L fun H => forK g tb D σ J H := by
  intro H l
  obtain ⟨y0, i0, e0, s0⟩ := h0
  refine ⟨fun i m σ' H' => m = n - i ∧ i ≤ n ∧ Pst S M I i σ' H', ⟨n, by simp, Nat.zero_le _, y0, i0, e0, l.sub s0⟩, ?_⟩
  rintro i m σ' H' ⟨rfl, hi, y, iy, rfl, ly⟩
  by_cases h : i < n
  · refine .inr ⟨wk.go _ _ i (hsrc i y iy) ly h, Pst S M I (i + 1), fun σ2 H2 p => ⟨n - (i + 1), by omega, rfl, h, p⟩, fun v H2 yl => ?_⟩
    obtain ⟨L', hv, l'⟩ := wk.yld _ _ i v H2 (hsrc i y iy) ly h yl
    exact hs i y v L' h iy hv H2 l'
  · obtain rfl : i = n := by omega
    exact .inl ⟨wk.stop _ _ (hsrc i y iy) ly, hd y iy H' ly⟩
/-- the walked things -/
def itL (K : PySem.W.Frag) (x : V) (H : Hp) (R : It → Hp → Prop) : Prop := ∃ a, x = .ref a ∧ (∃ xs, SqL K H a xs) ∧ R (Itl K a) H
def itT (K : PySem.W.Frag) (x : V) (H : Hp) (R : It → Hp → Prop) : Prop := ∃ a, x = .ref a ∧ (∃ xs, SqT K H a xs) ∧ R (Itt K a) H
def itR1 (vs : List V) (H : Hp) (R : It → Hp → Prop) : Prop := ∃ j : Int, vs = [.int j] ∧ -(2 ^ 62) ≤ j ∧ j < 2 ^ 62 ∧ R (Itr 0 j.toNat) H
def itR2 (vs : List V) (H : Hp) (R : It → Hp → Prop) : Prop := ∃ i j : Int, vs = [.int i, .int j] ∧ (-(2 ^ 62) ≤ i ∧ i < 2 ^ 62 ∧ -(2 ^ 62) ≤ j ∧ j < 2 ^ 62) ∧ R (Itr i (j - i).toNat) H
def itR3 (vs : List V) (H : Hp) (R : It → Hp → Prop) : Prop := ∃ (i j c : Int) (n : Nat), vs = [.int i, .int j, .int c] ∧ RgC i j c n ∧ R (Itc i c n) H
def itE (K : PySem.W.Frag) (vs : List V) (H : Hp) (R : It → Hp → Prop) : Prop := ∃ a xs, vs = [.ref a] ∧ SqL K H a xs ∧ R (Ite K a) H
def itZ (K : PySem.W.Frag) (vs : List V) (H : Hp) (R : It → Hp → Prop) : Prop := ∃ a b xs ys, vs = [.ref a, .ref b] ∧ SqL K H a xs ∧ SqL K H b ys ∧ R (Itz K a b) H
def itS (x : V) (H : Hp) (R : It → Hp → Prop) : Prop := ∃ z, x = .str z ∧ R (Its z) H
def itZA (K : PySem.W.Frag) (vs : List V) (H : Hp) (R : It → Hp → Prop) : Prop := ∃ a b xs ys, vs = [.ref a, .ref b] ∧ ((SqL K H a xs ∧ SqL K H b ys ∧ R (Itz K a b) H) ∨ (SqT K H a xs ∧ SqT K H b ys ∧ R (ItzT K a b) H))
variable {RJ : It → Hp → Prop}
theorem t_iZA (k : Tr L fun H => tr σ H fun x H1 => itZA K x H1 RJ) : Tr L fun H => iZipA K tr σ H RJ := k
theorem t_iL (k : Tr L fun H => te σ H fun x H1 => itL K x H1 RJ) : Tr L fun H => iList K te σ H RJ := k
theorem t_iT (k : Tr L fun H => te σ H fun x H1 => itT K x H1 RJ) : Tr L fun H => iTup K te σ H RJ := k
theorem t_iR1 (k : Tr L fun H => tr σ H fun x H1 => itR1 x H1 RJ) : Tr L fun H => iRng1 tr σ H RJ := k
theorem t_iR2 (k : Tr L fun H => tr σ H fun x H1 => itR2 x H1 RJ) : Tr L fun H => iRng2 tr σ H RJ := k
theorem t_iR3 (k : Tr L fun H => tr σ H fun x H1 => itR3 x H1 RJ) : Tr L fun H => iRng3 tr σ H RJ := k
theorem t_iE (k : Tr L fun H => tr σ H fun x H1 => itE K x H1 RJ) : Tr L fun H => iEnum K tr σ H RJ := k
theorem t_iZ (k : Tr L fun H => tr σ H fun x H1 => itZ K x H1 RJ) : Tr L fun H => iZip K tr σ H RJ := k
theorem t_iS (k : Tr L fun H => te σ H fun x H1 => itS x H1 RJ) : Tr L fun H => iStr te σ H RJ := k
variable {R R' : Lg} {a b : Addr} {xs ys : List V}
theorem t_itL (hp : Pick a (.lst xs) L R) (k : Tr L fun H => RJ (Itl K a) H) : Tr L fun H => itL K (.ref a) H RJ := fun H l => ⟨a, rfl, ⟨xs, sqL hp l⟩, k H l⟩
theorem t_itT (hp : Pick a (.tup xs) L R) (k : Tr L fun H => RJ (Itt K a) H) : Tr L fun H => itT K (.ref a) H RJ := fun H l => ⟨a, rfl, ⟨xs, sqT hp l⟩, k H l⟩
theorem t_itR1 {j : Int} (h1 : -(2 ^ 62) ≤ j) (h2 : j < 2 ^ 62) (k : Tr L fun H => RJ (Itr 0 j.toNat) H) : Tr L fun H => itR1 [.int j] H RJ := fun H l => ⟨j, rfl, h1, h2, k H l⟩
theorem t_itR2 {i j : Int} (h1 : -(2 ^ 62) ≤ i ∧ i < 2 ^ 62 ∧ -(2 ^ 62) ≤ j ∧ j < 2 ^ 62) (k : Tr L fun H => RJ (Itr i (j - i).toNat) H) : Tr L fun H => itR2 [.int i, .int j] H RJ := fun H l => ⟨i, j, rfl, h1, k H l⟩
theorem t_itR3 {i j c : Int} {n : Nat} (h1 : RgC i j c n) (k : Tr L fun H => RJ (Itc i c n) H) : Tr L fun H => itR3 [.int i, .int j, .int c] H RJ := fun H l => ⟨i, j, c, n, rfl, h1, k H l⟩
theorem t_itE (hp : Pick a (.lst xs) L R) (k : Tr L fun H => RJ (Ite K a) H) : Tr L fun H => itE K [.ref a] H RJ := fun H l => ⟨a, xs, rfl, sqL hp l, k H l⟩
theorem t_itZ (hp : Pick a (.lst xs) L R) (hq : Pick b (.lst ys) L R') (k : Tr L fun H => RJ (Itz K a b) H) : Tr L fun H => itZ K [.ref a, .ref b] H RJ := fun H l => ⟨a, b, xs, ys, rfl, sqL hp l, sqL hq l, k H l⟩
theorem t_itZL (hp : Pick a (.lst xs) L R) (hq : Pick b (.lst ys) L R') (k : Tr L fun H => RJ (Itz K a b) H) : Tr L fun H => itZA K [.ref a, .ref b] H RJ := fun H l => ⟨a, b, xs, ys, rfl, .inl ⟨sqL hp l, sqL hq l, k H l⟩⟩
theorem t_itZT (hp : Pick a (.tup xs) L R) (hq : Pick b (.tup ys) L R') (k : Tr L fun H => RJ (ItzT K a b) H) : Tr L fun H => itZA K [.ref a, .ref b] H RJ := fun H l => ⟨a, b, xs, ys, rfl, .inr ⟨sqT hp l, sqT hq l, k H l⟩⟩
theorem t_itS {z : Str} (k : Tr L fun H => RJ (Its z) H) : Tr L fun H => itS (.str z) H RJ := fun H l => ⟨z, rfl, k H l⟩
theorem t_nxP {α : Type} {S : Nat → α → SS} {M : Nat → α → Lg} {I : Nat → α → Prop} {i : Nat} {r : VK} {b c : SS → Hp → Prop} (k : Tr L fun H => Pst S M I i σ H) : Tr L fun H => Ends.nx ⟨Pst S M I i, r, b, c⟩ σ H := k
theorem t_ctP {α : Type} {S : Nat → α → SS} {M : Nat → α → Lg} {I : Nat → α → Prop} {i : Nat} {r : VK} {f b : SS → Hp → Prop} (k : Tr L fun H => Pst S M I i σ H) : Tr L fun H => Ends.ct ⟨f, r, b, Pst S M I i⟩ σ H := k
/-! ### while -/
/-- the state at the end of a while's turn -/
def Wst {α : Type} (S : α → SS) (M : α → Lg) (I : α → Prop) (μ : α → Nat) (n : Nat) (σ : SS) (H : Hp) : Prop := ∃ z, I z ∧ μ z < n ∧ σ = S z ∧ Led H (M z)
theorem t_nxW {α : Type} {S : α → SS} {M : α → Lg} {I : α → Prop} {μ : α → Nat} {n : Nat} {r : VK} {b c : SS → Hp → Prop} (k : Tr L fun H => Wst S M I μ n σ H) : Tr L fun H => Ends.nx ⟨Wst S M I μ n, r, b, c⟩ σ H := k
theorem t_ctW {α : Type} {S : α → SS} {M : α → Lg} {I : α → Prop} {μ : α → Nat} {n : Nat} {r : VK} {f b : SS → Hp → Prop} (k : Tr L fun H => Wst S M I μ n σ H) : Tr L fun H => Ends.ct ⟨f, r, b, Wst S M I μ n⟩ σ H := k
theorem t_while {α : Type} {tc : TT} (S : α → SS) (M : α → Lg) (I : α → Prop) (μ : α → Nat) (h0 : ∃ y, I y ∧ σ = S y ∧ Sub L (M y))
    (hs : ∀ y, I y → ∃ b, (∀ QB : Bool → Hp → Prop, Tr (M y) (fun H => QB b H) → Tr (M y) fun H => tc (S y) H QB) ∧
      (b = true → Tr (M y) fun H => tb { D with nx := Wst S M I μ (μ y), ct := Wst S M I μ (μ y), bk := D.nx } (S y) H) ∧
      (b = false → Tr (M y) fun H => D.nx (S y) H)) : Tr L fun H => tWhile tc tb D σ H := by
  intro H l
  obtain ⟨y0, i0, e0, s0⟩ := h0
  refine ⟨fun m σ' H' => ∃ y, m = μ y ∧ I y ∧ σ' = S y ∧ Led H' (M y), ⟨μ y0, y0, rfl, i0, e0, l.sub s0⟩, ?_⟩
  rintro m σ' H' ⟨y, rfl, iy, rfl, ly⟩
  obtain ⟨b, h1, h2, h3⟩ := hs y iy
  refine h1 _ (fun H2 l2 => ?_) H' ly
  cases b with
  | true =>
    rw [if_pos rfl]
    exact ⟨_, fun σ3 H3 ⟨z, iz, lt, e, lz⟩ => ⟨μ z, lt, z, rfl, iz, e, lz⟩, h2 rfl H2 l2⟩
  | false =>
    rw [if_neg Bool.false_ne_true]
    exact h3 rfl H2 l2
theorem t_whl {α : Type} {S : α → SS} {M : α → Lg} {I : α → Prop} {μ : α → Nat} {n : Nat} (y : α) (hI : I y) (hm : μ y < n) (hσ : σ = S y) (hM : Sub L (M y)) : Tr L fun H => Wst S M I μ n σ H :=
  fun H l => ⟨y, hI, hm, hσ, l.sub hM⟩
end

/-! ### list comprehensions -/
section
variable {L : Lg} {σ σ0 : SS} {K : PySem.W.Frag} {wi : TI} {g : TG} {tt : TT} {te : TE} {vs : List Nat} {Q : VK}
def lcK (g : TG) (tt : TT) (te : TE) (vs : List Nat) (σ : SS) (Q : VK) (J : It) (H1 : Hp) : Prop := ∀ D, H1 D = none → ∃ W : Nat → Nat → Hp → Prop, (∃ m, W 0 m (upd H1 D (.lst []))) ∧ ∀ i m H, W i m H →
  (J.stop i H ∧ Q (.ref D) H) ∨ (J.go i H ∧ ∃ Nx : Hp → Prop, (∀ H', Nx H' → ∃ m', m' < m ∧ W (i + 1) m' H') ∧ ∀ x H', J.yld i H x H' → g x (wipe σ vs) H' fun σ2 H2 => wipe σ2 vs = wipe σ vs ∧ tt σ2 H2 fun b H3 =>
    if b = true then te σ2 H3 fun y H4 => ∃ acc, H4 D = some (.lst acc) ∧ acc.length < sizeLine ∧ Nx (upd H4 D (.lst (acc ++ [y]))) else Nx H3)
theorem t_lc (k : Tr L fun H => wi σ H (lcK g tt te vs σ Q)) : Tr L fun H => tLc wi g tt te vs σ H Q := k
/-- an item is added to the new list -/
def lcAdd (D : Addr) (N : Hp → Prop) (y : V) (H : Hp) : Prop := ∃ acc, H D = some (.lst acc) ∧ acc.length < sizeLine ∧ N (upd H D (.lst (acc ++ [y])))
def lcNx {α : Type} (M : Nat → α → Lg) (out : Nat → α → List V) (I : Nat → α → Prop) (D : Addr) (i : Nat) (H : Hp) : Prop := ∃ y, I i y ∧ Led H ((D, .lst (out i y)) :: M i y)
theorem t_lcAdd {α : Type} {M : Nat → α → Lg} {out : Nat → α → List V} {I : Nat → α → Prop} {D : Addr} {i : Nat} {acc : List V} {R : Lg} {v : V} (y : α) (hI : I i y) (hp : Pick D (.lst acc) L R) (hz : acc.length < sizeLine)
    (he : acc ++ [v] = out i y) (hM : Sub R (M i y)) : Tr L fun H => lcAdd D (lcNx M out I D i) v H := fun H l => by
  refine ⟨acc, l.get hp, hz, y, hI, ?_⟩
  rw [he]
  have l2 := (l.pick hp).put (o' := .lst (out i y))
  exact l2.sub (.take .head hM)
theorem t_lcSkip {α : Type} {M : Nat → α → Lg} {out : Nat → α → List V} {I : Nat → α → Prop} {D : Addr} {i : Nat} (y : α) (hI : I i y) (hM : Sub L ((D, .lst (out i y)) :: M i y)) : Tr L fun H => lcNx M out I D i H := fun H l => ⟨y, hI, l.sub hM⟩
theorem t_lcK {α : Type} {J : It} {n : Nat} {val : Nat → V → Lg → Prop} {Src : Lg → Prop} (wk : Wk J n val Src) (hw : wipe σ vs = σ0) (M : Nat → α → Lg) (out : Nat → α → List V) (I : Nat → α → Prop)
    (h0 : ∃ y, I 0 y ∧ out 0 y = [] ∧ Sub L (M 0 y)) (hsrc : ∀ D i y, I i y → Src ((D, .lst (out i y)) :: M i y))
    (hs : ∀ D i y v L', i < n → I i y → val i v L' → Tr (L' ++ (D, .lst (out i y)) :: M i y) fun H => g v σ0 H fun σ2 H2 => wipe σ2 vs = σ0 ∧ tt σ2 H2 fun b H3 =>
      if b = true then te σ2 H3 (lcAdd D (lcNx M out I D (i + 1))) else lcNx M out I D (i + 1) H3)
    (hd : ∀ D y, I n y → Tr ((D, .lst (out n y)) :: M n y) fun H => Q (.ref D) H) : Tr L fun H => lcK g tt te vs σ Q J H := by
  intro H l D hD
  obtain ⟨y0, i0, e0, s0⟩ := h0
  have start : lcNx M out I D 0 (upd H D (.lst [])) := ⟨y0, i0, by rw [e0]; exact (l.new hD).sub (.take .head s0)⟩
  refine ⟨fun i m H' => m = n - i ∧ i ≤ n ∧ lcNx M out I D i H', ⟨n, by simp, Nat.zero_le _, start⟩, ?_⟩
  rintro i m H' ⟨rfl, hi, y, iy, ly⟩
  by_cases h : i < n
  · refine .inr ⟨wk.go _ _ i (hsrc D i y iy) ly h, lcNx M out I D (i + 1), fun H2 p => ⟨n - (i + 1), by omega, rfl, h, p⟩, fun v H2 yl => ?_⟩
    obtain ⟨L', hv, l'⟩ := wk.yld _ _ i v H2 (hsrc D i y iy) ly h yl
    rw [hw]
    exact hs D i y v L' h iy hv H2 l'
  · obtain rfl : i = n := by omega
    exact .inl ⟨wk.stop _ _ (hsrc D i y iy) ly, hd D y iy H' ly⟩
theorem t_wiped {G : Hp → Prop} {σ2 : SS} (hw : wipe σ2 vs = σ0) (k : Tr L G) : Tr L fun H => wipe σ2 vs = σ0 ∧ G H := fun H l => ⟨hw, k H l⟩
theorem t_yes {QB : Bool → Hp → Prop} (k : Tr L fun H => QB true H) : Tr L fun H => tYes σ H QB := k
end
end Hz
namespace Hz
open PySem PySem.Spec PyProof.Rows L2 RZ
/-- the slot i of σ holds v -/
inductive GetAt : SS → Nat → V → Prop where
  | zero {v : V} {r : SS} : GetAt (some v :: r) 0 v
  | succ {i : Nat} {v : V} {y : Option V} {r : SS} : GetAt r i v → GetAt (y :: r) (i + 1) v
theorem GetAt.eq {σ : SS} {i : Nat} {v : V} (h : GetAt σ i v) : σ[i]? = some (some v) := by
  induction h with
  | zero => rfl
  | succ _ ih => rw [List.getElem?_cons_succ, ih]
section
variable {L R : Lg} {σ σ' : SS} {Q : VK} {te : TE} {D : Ends} {v x : V} {i : Nat}
theorem t_varA (h : GetAt σ i v) (k : Tr L fun H => Q v H) : Tr L fun H => tVar i σ H Q := t_var h.eq k
theorem t_augA {ti : TIp} (h : GetAt σ i x) (k : Tr L fun H => te σ H fun y H1 => ti x y H1 fun z H2 => gName i z σ H2 D.nx) : Tr L fun H => tAug i te ti D σ H := t_aug h.eq k
end
end Hz

/-! Hz, rules with readings that bear a name. -/
namespace Hz
open PySem PySem.Spec PyProof.Rows L2 RZ
/-! ### the module's names -/
/-- a constant of the module -/
def GV (mg : Str → Option Value) (x : Str) (v : V) : Prop := ∃ u, mg x = some u ∧ RelV v u
section
variable {X : Cx}
theorem pe_gv {x : Str} {v : V} {pos : Pos} (h : GV X.mg x v) (hg : Gl X x := by rfl) (hd : (x == ("__debug__" : Str)) = false := by decide) (hc : (x == ("__classdict__" : Str)) = false := by decide) : PE X (.Name x pos) (tC v) := by
  obtain ⟨u, hm, r⟩ := h
  exact pe_glob hg hm r hd
/-! ### numbers -/
def cPow (i j : Int) : Prop := 0 ≤ j ∧ (Builtin.Int.intBits i : Int) * j ≤ 2 ^ 27
theorem op_powW : OpR X (binaryOp .Pow) (rI cPow fun i j => .int (i ^ j.toNat)) := opI fun _ _ _ _ _ _ _ hc q => pow_int hc.1 hc.2 q
def cMul (i j : Int) : Prop := (-(2 ^ 64) < i ∧ i < 2 ^ 64) ∨ (-(2 ^ 64) < j ∧ j < 2 ^ 64) ∨ CMulW i j
theorem op_mulA : OpR X (binaryOp .Mult) (rI cMul fun i j => .int (i * j)) := opI fun _ _ _ _ _ _ _ hc q => by
  rcases hc with h | h | h
  · exact mul_int q (CMul.ok (.inl h))
  · exact mul_int q (CMul.ok (.inr h))
  · exact mul_int q h.ok
def rMax2 : List V → Hp → VK → Prop := fun xs H Q => ∃ i j, xs = [.int i, .int j] ∧ Q (.int (max i j)) H
def rMin2 : List V → Hp → VK → Prop := fun xs H Q => ∃ i j, xs = [.int i, .int j] ∧ Q (.int (min i j)) H
theorem max_ite (i j : Int) : (if j > i then j else i) = max i j := by split <;> omega
theorem min_ite (i j : Int) : (if j < i then j else i) = min i j := by split <;> omega
theorem c_max2 (hc : X.calm = true) : CallR X (.builtin "max") rMax2 := fun pins s σ H xs us Q I r ⟨i, j, e, q⟩ => call_max2 hc pins s σ H xs us Q I r ⟨i, j, e, by rw [max_ite]; exact q⟩
theorem c_min2 (hc : X.calm = true) : CallR X (.builtin "min") rMin2 := fun pins s σ H xs us Q I r ⟨i, j, e, q⟩ => call_min2 hc pins s σ H xs us Q I r ⟨i, j, e, by rw [min_ite]; exact q⟩
def rInt : List V → Hp → VK → Prop := fun xs H Q => (∃ i, xs = [.int i] ∧ Q (.int i) H) ∨ ∃ k, xs = [.bl k] ∧ Q (.int (if k then 1 else 0)) H
theorem c_int : CallR X (.type "int") rInt := call_int1
/-! ### len, isinstance, list(..), tuple(..) -/
def rLen (K : PySem.W.Frag) : List V → Hp → VK → Prop := fun xs H Q => ∃ x n, xs = [x] ∧ LenV K x H n ∧ Q (.int n) H
theorem c_len : CallR X (.builtin "len") (rLen X.K) := call_len
def rIs (K : PySem.W.Frag) : List V → Hp → VK → Prop := fun xs H Q => ∃ (x c : V) (t u : Value) (b : Bool), xs = [x, c] ∧ ClsV c u ∧ TyX K H x t ∧ PySem.W.kitOne K t u = some b ∧ Q (.bl b) H
theorem c_is : CallR X (.builtin "isinstance") (rIs X.K) := call_isi
def rIsT (K : PySem.W.Frag) : List V → Hp → VK → Prop := fun xs H Q => ∃ (x : V) (tp : Addr) (cs : List V) (t : Value) (us : List Value) (b : Bool), xs = [x, .ref tp] ∧ H tp = some (.tup cs) ∧ Paired ClsV cs us ∧ TyX K H x t ∧ PySem.W.kitAny K t us = some b ∧ Q (.bl b) H
theorem c_isT : CallR X (.builtin "isinstance") (rIsT X.K) := call_isiT
def rList (K : PySem.W.Frag) : List V → Hp → VK → Prop := fun xs H Q => ∃ p ys, xs = [.ref p] ∧ (SqL K H p ys ∨ SqT K H p ys) ∧ ∀ l, H l = none → Q (.ref l) (upd H l (.lst ys))
theorem c_list : CallR X (.type "list") (rList X.K) := call_list_of
def rTuple (K : PySem.W.Frag) : List V → Hp → VK → Prop := fun xs H Q => ∃ p ys, xs = [.ref p] ∧ ((SqL K H p ys ∧ ∀ l, H l = none → Q (.ref l) (upd H l (.tup ys))) ∨ (SqT K H p ys ∧ Q (.ref p) H))
theorem c_tuple : CallR X (.type "tuple") (rTuple X.K) := call_tuple_of
end
/-! ### their steps -/
section
variable {L R : Lg} {Q : VK} {K : PySem.W.Frag} {a p : Addr} {xs : List V} {σ : SS}
theorem t_max2 {i j : Int} (k : Tr L fun H => Q (.int (max i j)) H) : Tr L fun H => rMax2 [.int i, .int j] H Q := fun H l => ⟨i, j, rfl, k H l⟩
theorem t_min2 {i j : Int} (k : Tr L fun H => Q (.int (min i j)) H) : Tr L fun H => rMin2 [.int i, .int j] H Q := fun H l => ⟨i, j, rfl, k H l⟩
theorem t_intB {b : Bool} (k : Tr L fun H => Q (.int (if b then 1 else 0)) H) : Tr L fun H => rInt [.bl b] H Q := fun H l => .inr ⟨b, rfl, k H l⟩
theorem t_intI {i : Int} (k : Tr L fun H => Q (.int i) H) : Tr L fun H => rInt [.int i] H Q := fun H l => .inl ⟨i, rfl, k H l⟩
theorem t_lenL (hp : Pick p (.lst xs) L R) (k : Tr L fun H => Q (.int xs.length) H) : Tr L fun H => rLen K [.ref p] H Q := fun H l => ⟨_, _, rfl, .inl ⟨xs, sqL hp l, rfl⟩, k H l⟩
theorem t_lenT (hp : Pick p (.tup xs) L R) (k : Tr L fun H => Q (.int xs.length) H) : Tr L fun H => rLen K [.ref p] H Q := fun H l => ⟨_, _, rfl, .inr ⟨xs, sqT hp l, rfl⟩, k H l⟩
theorem t_lenS {z : Str} (hz : z.length ≤ sizeLine) (k : Tr L fun H => Q (.int z.length) H) : Tr L fun H => rLen K [.str z] H Q := fun H l => ⟨_, _, rfl, ⟨hz, rfl⟩, k H l⟩
/-- the type's name of a value that is no object -/
def tyN : V → String
  | .non => "NoneType"
  | .bl _ => "bool"
  | .int _ => "int"
  | .str _ => "str"
  | .byt _ => "bytes"
  | .flt _ => "float"
  | _ => "?"
theorem tyN_of {x : V} {H : Hp} (h : (tyN x == "?") = false) : TyX K H x (.type (tyN x)) := by
  cases x with
  | non => exact .base .non
  | bl b => exact .base (.bl b)
  | int i => exact .base (.int i)
  | str z => exact .base (.str z)
  | byt b => exact .byt b
  | flt b => exact .base (.flt b)
  | ref a => cases h
  | ty n => cases h
theorem t_isV {x : V} {C : String} {b : Bool} (hn : (tyN x == "?") = false) (hb : kitB (tyN x) C = some b) (k : Tr L fun H => Q (.bl b) H) : Tr L fun H => rIs K [x, .ty C] H Q :=
  fun H l => ⟨x, .ty C, _, _, b, rfl, .ty C, tyN_of hn, kit_ty hb, k H l⟩
theorem t_isL {C : String} {b : Bool} (hp : Pick p (.lst xs) L R) (hb : kitB "list" C = some b) (k : Tr L fun H => Q (.bl b) H) : Tr L fun H => rIs K [.ref p, .ty C] H Q :=
  fun H l => ⟨_, .ty C, _, _, b, rfl, .ty C, .base (.lst (l.get hp)), kit_ty hb, k H l⟩
theorem t_isT {C : String} {b : Bool} (hp : Pick p (.tup xs) L R) (hb : kitB "tuple" C = some b) (k : Tr L fun H => Q (.bl b) H) : Tr L fun H => rIs K [.ref p, .ty C] H Q :=
  fun H l => ⟨_, .ty C, _, _, b, rfl, .ty C, .base (.tup (l.get hp)), kit_ty hb, k H l⟩
theorem t_isD {C : String} {b : Bool} {kvs : List (Key × V)} (hp : Pick p (.dK kvs) L R) (hb : kitB "dict" C = some b) (k : Tr L fun H => Q (.bl b) H) : Tr L fun H => rIs K [.ref p, .ty C] H Q :=
  fun H l => ⟨_, .ty C, _, _, b, rfl, .ty C, .base (.dK (l.get hp)), kit_ty hb, k H l⟩
/-- one of several types -/
def kitBs (T : String) : List String → Option Bool
  | [] => some false
  | C :: r => match kitB T C with
    | some true => some true
    | some false => kitBs T r
    | none => none
theorem kitBs_any : ∀ {T : String} {Cs : List String} {b : Bool}, kitBs T Cs = some b → PySem.W.kitAny K (.type T) (Cs.map Value.type) = some b
  | T, [], b, h => by
    cases h
    exact kitAny_nil
  | T, C :: r, b, h => by
    unfold kitBs at h
    cases e : kitB T C with
    | none => rw [e] at h; cases h
    | some c =>
      rw [e] at h
      cases c with
      | true => cases h; exact kitAny_cons (kit_ty e) (fun z => nomatch z) fun _ => rfl
      | false => exact kitAny_cons (kit_ty e) (fun _ => kitBs_any h) fun z => nomatch z
theorem cls_tys : ∀ Cs : List String, Paired ClsV (Cs.map V.ty) (Cs.map Value.type)
  | [] => .nil
  | C :: r => .cons (.ty C) (cls_tys r)
theorem t_isTV {x : V} {Cs : List String} {b : Bool} {tp : Addr} (hp : Pick tp (.tup (Cs.map V.ty)) L R) (hn : (tyN x == "?") = false) (hb : kitBs (tyN x) Cs = some b) (k : Tr L fun H => Q (.bl b) H) : Tr L fun H => rIsT K [x, .ref tp] H Q :=
  fun H l => ⟨x, tp, _, _, _, b, rfl, l.get hp, cls_tys Cs, tyN_of hn, kitBs_any hb, k H l⟩
theorem t_isTL {R' : Lg} {Cs : List String} {b : Bool} {tp : Addr} (hp : Pick tp (.tup (Cs.map V.ty)) L R) (hq : Pick p (.lst xs) L R') (hb : kitBs "list" Cs = some b) (k : Tr L fun H => Q (.bl b) H) : Tr L fun H => rIsT K [.ref p, .ref tp] H Q :=
  fun H l => ⟨_, tp, _, _, _, b, rfl, l.get hp, cls_tys Cs, .base (.lst (l.get hq)), kitBs_any hb, k H l⟩
theorem t_isTT {R' : Lg} {Cs : List String} {b : Bool} {tp : Addr} (hp : Pick tp (.tup (Cs.map V.ty)) L R) (hq : Pick p (.tup xs) L R') (hb : kitBs "tuple" Cs = some b) (k : Tr L fun H => Q (.bl b) H) : Tr L fun H => rIsT K [.ref p, .ref tp] H Q :=
  fun H l => ⟨_, tp, _, _, _, b, rfl, l.get hp, cls_tys Cs, .base (.tup (l.get hq)), kitBs_any hb, k H l⟩
theorem t_isTD {R' : Lg} {Cs : List String} {b : Bool} {tp : Addr} {kvs : List (Key × V)} (hp : Pick tp (.tup (Cs.map V.ty)) L R) (hq : Pick p (.dK kvs) L R') (hb : kitBs "dict" Cs = some b) (k : Tr L fun H => Q (.bl b) H) : Tr L fun H => rIsT K [.ref p, .ref tp] H Q :=
  fun H l => ⟨_, tp, _, _, _, b, rfl, l.get hp, cls_tys Cs, .base (.dK (l.get hq)), kitBs_any hb, k H l⟩
theorem t_listL (hp : Pick a (.lst xs) L R) (k : ∀ p, Tr ((p, .lst xs) :: L) fun H => Q (.ref p) H) : Tr L fun H => rList K [.ref a] H Q := fun H l => ⟨a, xs, rfl, .inl (sqL hp l), fun p hp' => k p _ (l.new hp')⟩
theorem t_listT (hp : Pick a (.tup xs) L R) (k : ∀ p, Tr ((p, .lst xs) :: L) fun H => Q (.ref p) H) : Tr L fun H => rList K [.ref a] H Q := fun H l => ⟨a, xs, rfl, .inr (sqT hp l), fun p hp' => k p _ (l.new hp')⟩
theorem t_tupleL (hp : Pick a (.lst xs) L R) (k : ∀ p, Tr ((p, .tup xs) :: L) fun H => Q (.ref p) H) : Tr L fun H => rTuple K [.ref a] H Q := fun H l => ⟨a, xs, rfl, .inl ⟨sqL hp l, fun p hp' => k p _ (l.new hp')⟩⟩
/-- list(range(..)) -/
def newRg (m n : Int) (H : Hp) (Q : VK) : Prop := RgOk m n ∧ ∀ q, H q = none → Q (.ref q) (upd H q (.lst (rgV m n)))
theorem t_lstRg {te : SS → Hp → (Int → Int → Hp → Prop) → Prop} (k : Tr L fun H => te σ H fun m n H1 => newRg m n H1 Q) : Tr L fun H => tLstRg te σ H Q := k
theorem t_rg1 {te : TE} {QQ : Int → Int → Hp → Prop} (k : Tr L fun H => te σ H fun x H1 => ∃ n, x = .int n ∧ QQ 0 n H1) : Tr L fun H => tRg1 te σ H QQ := k
theorem t_rg2 {te tf : TE} {QQ : Int → Int → Hp → Prop} (k : Tr L fun H => te σ H fun x H1 => tf σ H1 fun y H2 => ∃ i j, x = .int i ∧ y = .int j ∧ QQ i j H2) : Tr L fun H => tRg2 te tf σ H QQ := k
theorem t_int2 {m n : Int} {G : Int → Int → Hp → Prop} (k : Tr L fun H => G m n H) : Tr L fun H => ∃ i j, V.int m = .int i ∧ V.int n = .int j ∧ G i j H := fun H l => ⟨m, n, rfl, rfl, k H l⟩
theorem t_newRg {m n : Int} (h : RgOk m n) (k : ∀ p, Tr ((p, .lst (rgV m n)) :: L) fun H => Q (.ref p) H) : Tr L fun H => newRg m n H Q := fun H l => ⟨h, fun p hp => k p _ (l.new hp)⟩
/-- xs[::-1] -/
def newRev (K : PySem.W.Frag) (x : V) (H : Hp) (Q : VK) : Prop := ∃ a xs, x = .ref a ∧ SqL K H a xs ∧ ∀ p, H p = none → Q (.ref p) (upd H p (.lst xs.reverse))
theorem t_revL {te : TE} (k : Tr L fun H => te σ H fun x H1 => newRev K x H1 Q) : Tr L fun H => tRevL K te σ H Q := k
theorem t_newRev (hp : Pick a (.lst xs) L R) (k : ∀ p, Tr ((p, .lst xs.reverse) :: L) fun H => Q (.ref p) H) : Tr L fun H => newRev K (.ref a) H Q := fun H l => ⟨a, xs, rfl, sqL hp l, fun p hp' => k p _ (l.new hp')⟩
theorem t_isB {m n : Bool} (k : Tr L fun H => Q (.bl (decide (m = n))) H) : Tr L fun H => rIsB (.bl m) (.bl n) H Q := fun H l => ⟨m, n, rfl, rfl, k H l⟩
theorem t_notB {m n : Bool} (k : Tr L fun H => Q (.bl (!decide (m = n))) H) : Tr L fun H => rNotB (.bl m) (.bl n) H Q := fun H l => ⟨m, n, rfl, rfl, k H l⟩
theorem t_all {bs : List Bool} (hp : Pick a (.lst (bs.map V.bl)) L R) (k : Tr L fun H => Q (.bl (bs.all id)) H) : Tr L fun H => rAll K [.ref a] H Q := fun H l => ⟨a, bs, rfl, sqL hp l, k H l⟩
theorem t_any {bs : List Bool} (hp : Pick a (.lst (bs.map V.bl)) L R) (k : Tr L fun H => Q (.bl (bs.any id)) H) : Tr L fun H => rAny K [.ref a] H Q := fun H l => ⟨a, bs, rfl, sqL hp l, k H l⟩
theorem t_sum {ns : List Int} (hp : Pick a (.lst (ns.map V.int)) L R) (k : Tr L fun H => Q (.int ns.sum) H) : Tr L fun H => rSum K [.ref a] H Q := fun H l => ⟨a, ns, rfl, sqL hp l, k H l⟩
theorem t_maxL {ns : List Int} (hp : Pick a (.lst (ns.map V.int)) L R) (h0 : 0 < ns.length) (k : ∀ m, m ∈ ns → (∀ y, y ∈ ns → y ≤ m) → Tr L fun H => Q (.int m) H) : Tr L fun H => rMax K [.ref a] H Q := fun H l => ⟨a, ns, rfl, sqL hp l, h0, fun m h1 h2 => k m h1 h2 H l⟩
theorem t_minL {ns : List Int} (hp : Pick a (.lst (ns.map V.int)) L R) (h0 : 0 < ns.length) (k : ∀ m, m ∈ ns → (∀ y, y ∈ ns → m ≤ y) → Tr L fun H => Q (.int m) H) : Tr L fun H => rMin K [.ref a] H Q := fun H l => ⟨a, ns, rfl, sqL hp l, h0, fun m h1 h2 => k m h1 h2 H l⟩
/-- data by the ledger -/
def DpL (K : PySem.W.Frag) (L : Lg) (x : V) (d : PyData) : Prop := ∀ H, Led H L → Dp K H x d
theorem dpAll_ints {H : Hp} : ∀ ns : List Int, DpAll K H (ns.map V.int) (ns.map PyData.int)
  | [] => .nil
  | n :: r => .cons (.int n) (dpAll_ints r)
theorem dpl_ints {ns : List Int} (hp : Pick a (.lst (ns.map V.int)) L R) : DpL K L (.ref a) (.list (ns.map PyData.int)) := fun H l => .lst (sqL hp l) (dpAll_ints ns)
theorem t_repr {x : V} {d : PyData} (hd : DpL K L x d) (hs : d.showable = true) (hk : d.depth < 60) (hz : d.shown.length ≤ sizeLine) (k : Tr L fun H => Q (.str d.shown) H) : Tr L fun H => rRepr K [x] H Q :=
  fun H l => ⟨x, d, rfl, hd H l, hs, hk, hz, k H l⟩
theorem t_eqD {x y : V} {d e : PyData} (hd : DpL K L x d) (he : DpL K L y e) (sd : SeqAt.shaped d = true) (se : SeqAt.shaped e = true) (k : Tr L fun H => Q (.bl (PyData.eqv d e)) H) : Tr L fun H => rEqD K x y H Q :=
  fun H l => ⟨d, e, hd H l, he H l, sd, se, k H l⟩
theorem t_neD {x y : V} {d e : PyData} (hd : DpL K L x d) (he : DpL K L y e) (sd : SeqAt.shaped d = true) (se : SeqAt.shaped e = true) (k : Tr L fun H => Q (.bl (!PyData.eqv d e)) H) : Tr L fun H => rNeD K x y H Q :=
  fun H l => ⟨d, e, hd H l, he H l, sd, se, k H l⟩
end
end Hz

/-! Hz, part D: data by the ledger; defs by name; types by the ledger. -/
namespace Hz
open PySem PySem.Spec PyProof.Rows L2 RZ
/-! ### a def of the text, by its name -/
def Df (K : PySem.W.Frag) (mg : Str → Option Value) (x : Str) (st : Stmt) : Prop := ∃ (f : Addr) (fd : FuncData), mg x = some (.ref f) ∧ Fun K x x st f fd
/-- the built-in names are the built-ins -/
structure Blt (mg : Str → Option Value) : Prop where
  len_ : mg "len" = none
  isinstance_ : mg "isinstance" = none
  int_ : mg "int" = none
  bool_ : mg "bool" = none
  str_ : mg "str" = none
  list_ : mg "list" = none
  tuple_ : mg "tuple" = none
  dict_ : mg "dict" = none
  set_ : mg "set" = none
  range_ : mg "range" = none
  enumerate_ : mg "enumerate" = none
  zip_ : mg "zip" = none
  repr_ : mg "repr" = none
  max_ : mg "max" = none
  min_ : mg "min" = none
  all_ : mg "all" = none
  any_ : mg "any" = none
  sum_ : mg "sum" = none
  sorted_ : mg "sorted" = none
  abs_ : mg "abs" = none
theorem boot_len : bootBuiltins "len" = some (.builtin "len") := PySem.boot_len
theorem boot_min : bootBuiltins "min" = some (.builtin "min") := by decide +kernel
theorem boot_max : bootBuiltins "max" = some (.builtin "max") := by decide +kernel
theorem boot_all : bootBuiltins "all" = some (.builtin "all") := by decide +kernel
theorem boot_any : bootBuiltins "any" = some (.builtin "any") := by decide +kernel
theorem boot_sum : bootBuiltins "sum" = some (.builtin "sum") := by decide +kernel
/-- a promise that nobody can call upon: for the branch that is never walked -/
def spNo : Sp := fun _ _ _ _ => False
theorem okNo {P : Program} {w : World} {K : PySem.W.Frag} {mg : Str → Option Value} {base : Heap} {CX : CXT} {x : Str} {st : Stmt} {ps : List Str} (D : Df K mg x st)
    (b : ∀ fd f, Fun K x x st f fd → Binds K fd ps []) : Ok P w K mg base CX 0 x ps spNo := by
  obtain ⟨f, fd, hm, F⟩ := D
  exact ⟨f, fd, hm, F.kp, b _ _ F, ⟨fun _ _ _ _ h => h.elim, fun _ _ _ _ _ _ _ _ _ _ _ _ _ h => h.elim⟩, F.lk⟩
theorem pe_ty {X : Cx} {x : Str} {T : String} {pos : Pos} (hm : X.mg x = none) (hv : bootBuiltins x = some (.type T)) (hg : Gl X x := by rfl) (hn : x ≠ "__name__" := by decide) (hd : (x == ("__debug__" : Str)) = false := by decide) :
    PE X (.Name x pos) (tC (.ty T)) := pe_bltn hg hm hv (show RelV (.ty T) (.type T) from rfl) hn hd
/-! ### picks and members -/
theorem Pick.mem {a : Addr} {o : HO} {L R : Lg} (h : Pick a o L R) : (a, o) ∈ L := h.perm.mem_iff.mpr (.head _)
theorem Pick.of_mem {a : Addr} {o : HO} : ∀ {L : Lg}, (a, o) ∈ L → ∃ R, Pick a o L R
  | _ :: L, h => by
    cases h with
    | head => exact ⟨_, .head⟩
    | tail _ h => obtain ⟨R, p⟩ := Pick.of_mem h; exact ⟨_, p.tail⟩
/-- the type's name of a value -/
inductive HasTy (L : Lg) : V → String → Prop where
  | non : HasTy L .non "NoneType"
  | bl (b : Bool) : HasTy L (.bl b) "bool"
  | int (i : Int) : HasTy L (.int i) "int"
  | str (z : Str) : HasTy L (.str z) "str"
  | lst {a : Addr} {xs : List V} : (a, .lst xs) ∈ L → HasTy L (.ref a) "list"
  | tup {a : Addr} {xs : List V} : (a, .tup xs) ∈ L → HasTy L (.ref a) "tuple"
  | dct {a : Addr} {kvs : List (Key × V)} : (a, .dK kvs) ∈ L → HasTy L (.ref a) "dict"
theorem HasTy.mono {L M : Lg} {x : V} {T : String} (h : HasTy L x T) (s : ∀ p ∈ L, p ∈ M) : HasTy M x T := by
  cases h with
  | non => exact .non
  | bl b => exact .bl b
  | int i => exact .int i
  | str z => exact .str z
  | lst m => exact .lst (s _ m)
  | tup m => exact .tup (s _ m)
  | dct m => exact .dct (s _ m)
def tyNames : List String := ["NoneType", "bool", "int", "str", "list", "tuple", "dict"]
theorem HasTy.name {L : Lg} {x : V} {T : String} (h : HasTy L x T) : T ∈ tyNames := by cases h <;> decide +kernel
theorem HasTy.tyx {K : PySem.W.Frag} {L : Lg} {H : Hp} {x : V} {T : String} (h : HasTy L x T) (l : Led H L) : TyX K H x (.type T) := by
  cases h with
  | non => exact .base .non
  | bl b => exact .base (.bl b)
  | int i => exact .base (.int i)
  | str z => exact .base (.str z)
  | lst m => exact .base (.lst (l.has _ m))
  | tup m => exact .base (.tup (l.has _ m))
  | dct m => exact .base (.dK (l.has _ m))
/-- isinstance by the types' names -/
def isB (T C : String) : Bool := T == C || (T == "bool" && C == "int")
theorem kitB_isB {T C : String} (h : T ∈ tyNames) (hc : C ∈ tyNames) : kitB T C = some (isB T C) := by
  have all : (tyNames.all fun T => tyNames.all fun C => decide (kitB T C = some (isB T C))) = true := by decide +kernel
  exact of_decide_eq_true (List.all_eq_true.mp (List.all_eq_true.mp all T h) C hc)
section
variable {L R : Lg} {Q : VK} {K : PySem.W.Frag} {x : V} {T : String}
theorem t_is {C : String} (h : HasTy L x T) (hc : C ∈ tyNames) (k : Tr L fun H => Q (.bl (isB T C)) H) : Tr L fun H => rIs K [x, .ty C] H Q :=
  fun H l => ⟨x, .ty C, _, _, _, rfl, .ty C, h.tyx l, kit_ty (kitB_isB h.name hc), k H l⟩
theorem kitBs_isB {T : String} (h : T ∈ tyNames) : ∀ Cs : List String, (∀ C ∈ Cs, C ∈ tyNames) → kitBs T Cs = some (Cs.any (isB T))
  | [], _ => rfl
  | C :: r, hc => by
    unfold kitBs
    rw [kitB_isB h (hc C (.head _)), List.any_cons]
    cases isB T C with
    | true => rfl
    | false => exact kitBs_isB h r fun D hD => hc D (.tail _ hD)
theorem t_isTs {Cs : List String} {tp : Addr} (hp : Pick tp (.tup (Cs.map V.ty)) L R) (h : HasTy L x T) (hc : ∀ C ∈ Cs, C ∈ tyNames) (k : Tr L fun H => Q (.bl (Cs.any (isB T))) H) : Tr L fun H => rIsT K [x, .ref tp] H Q :=
  fun H l => ⟨x, tp, _, _, _, _, rfl, l.get hp, cls_tys Cs, h.tyx l, kitBs_any (kitBs_isB h.name Cs hc), k H l⟩
end
/-! ### data -/
mutual
inductive Dt (L : Lg) : V → PyData → Prop where
  | non : Dt L .non .none
  | bl (b : Bool) : Dt L (.bl b) (.bool b)
  | int (i : Int) : Dt L (.int i) (.int i)
  | str (z : Str) : Dt L (.str z) (.str z)
  | lst {a : Addr} {xs : List V} {ds : List PyData} : (a, .lst xs) ∈ L → DtAll L xs ds → Dt L (.ref a) (.list ds)
  | tup {a : Addr} {xs : List V} {ds : List PyData} : (a, .tup xs) ∈ L → DtAll L xs ds → Dt L (.ref a) (.tuple ds)
inductive DtAll (L : Lg) : List V → List PyData → Prop where
  | nil : DtAll L [] []
  | cons {x : V} {xs : List V} {d : PyData} {ds : List PyData} : Dt L x d → DtAll L xs ds → DtAll L (x :: xs) (d :: ds)
end
mutual
theorem Dt.mono {L M : Lg} (s : ∀ p ∈ L, p ∈ M) : ∀ {x : V} {d : PyData}, Dt L x d → Dt M x d
  | _, _, .non => .non
  | _, _, .bl b => .bl b
  | _, _, .int i => .int i
  | _, _, .str z => .str z
  | _, _, .lst m h => .lst (s _ m) (DtAll.mono s h)
  | _, _, .tup m h => .tup (s _ m) (DtAll.mono s h)
theorem DtAll.mono {L M : Lg} (s : ∀ p ∈ L, p ∈ M) : ∀ {xs : List V} {ds : List PyData}, DtAll L xs ds → DtAll M xs ds
  | _, _, .nil => .nil
  | _, _, .cons h r => .cons (Dt.mono s h) (DtAll.mono s r)
end
mutual
theorem Dt.dp {K : PySem.W.Frag} {L : Lg} {H : Hp} (l : Led H L) : ∀ {x : V} {d : PyData}, Dt L x d → Dp K H x d
  | _, _, .non => .non
  | _, _, .bl b => .bl b
  | _, _, .int i => .int i
  | _, _, .str z => .str z
  | _, _, .lst m h => .lst (.inl (.inl (l.has _ m))) (DtAll.dp l h)
  | _, _, .tup m h => .tup (.inl (.inl (l.has _ m))) (DtAll.dp l h)
theorem DtAll.dp {K : PySem.W.Frag} {L : Lg} {H : Hp} (l : Led H L) : ∀ {xs : List V} {ds : List PyData}, DtAll L xs ds → DpAll K H xs ds
  | _, _, .nil => .nil
  | _, _, .cons h r => .cons (Dt.dp l h) (DtAll.dp l r)
end
theorem Dt.dpl {K : PySem.W.Frag} {L : Lg} {x : V} {d : PyData} (h : Dt L x d) : DpL K L x d := fun _ l => h.dp l
theorem DtAll.len {L : Lg} : ∀ {xs : List V} {ds : List PyData}, DtAll L xs ds → xs.length = ds.length
  | _, _, .nil => rfl
  | _, _, .cons _ r => by rw [List.length_cons, List.length_cons, r.len]
theorem DtAll.get {L : Lg} : ∀ {xs : List V} {ds : List PyData} {i : Nat} {x : V}, DtAll L xs ds → xs[i]? = some x → ∃ d, ds[i]? = some d ∧ Dt L x d
  | _, _, 0, _, .cons h _, e => by cases e; exact ⟨_, rfl, h⟩
  | _, _, i + 1, _, .cons _ r, e => r.get (i := i) (by simpa using e)
theorem DtAll.ints {L : Lg} : ∀ ns : List Int, DtAll L (ns.map V.int) (ns.map PyData.int)
  | [] => .nil
  | n :: r => .cons (.int n) (DtAll.ints r)
theorem Dt.ints {L : Lg} {a : Addr} {ns : List Int} (h : (a, .lst (ns.map V.int)) ∈ L) : Dt L (.ref a) (.list (ns.map PyData.int)) := .lst h (.ints ns)
theorem Dt.intsT {L : Lg} {a : Addr} {ns : List Int} (h : (a, .tup (ns.map V.int)) ∈ L) : Dt L (.ref a) (.tuple (ns.map PyData.int)) := .tup h (.ints ns)
theorem DtAll.bools {L : Lg} : ∀ bs : List Bool, DtAll L (bs.map V.bl) (bs.map PyData.bool)
  | [] => .nil
  | n :: r => .cons (.bl n) (DtAll.bools r)
mutual
/-- no list of it is longer than a list may be -/
def wide : PyData → Bool
  | .list ds | .tuple ds => decide (ds.length ≤ 100000) && wideAll ds
  | _ => true
def wideAll : List PyData → Bool
  | [] => true
  | d :: r => wide d && wideAll r
end
theorem wideAll_mem : ∀ {ds : List PyData} {d : PyData}, wideAll ds = true → d ∈ ds → wide d = true
  | e :: r, d, h, m => by
    rw [wideAll, Bool.and_eq_true] at h
    rcases List.mem_cons.mp m with rfl | m
    · exact h.1
    · exact wideAll_mem h.2 m
theorem wideAll_ints : ∀ ns : List Int, wideAll (ns.map PyData.int) = true
  | [] => by simp only [List.map_nil, wideAll]
  | n :: r => by simp only [List.map_cons, wideAll, wide, wideAll_ints r, Bool.and_self]
theorem wide_ints {ns : List Int} (h : ns.length ≤ 100000) : wide (.list (ns.map PyData.int)) = true := by
  rw [wide, wideAll_ints, List.length_map, decide_eq_true h]; rfl
theorem wide_intsT {ns : List Int} (h : ns.length ≤ 100000) : wide (.tuple (ns.map PyData.int)) = true := by
  rw [wide, wideAll_ints, List.length_map, decide_eq_true h]; rfl
def dtName : PyData → String
  | .none => "NoneType" | .bool _ => "bool" | .int _ => "int" | .str _ => "str" | .list _ => "list" | .tuple _ => "tuple" | .dict _ => "dict"
theorem Dt.ty {L : Lg} {x : V} {d : PyData} (h : Dt L x d) : HasTy L x (dtName d) := by
  cases h with
  | non => exact .non
  | bl b => exact .bl b
  | int i => exact .int i
  | str z => exact .str z
  | lst m _ => exact .lst m
  | tup m _ => exact .tup m
end Hz
namespace Hz
open PySem PySem.Spec PyProof.Rows L2 RZ
section
variable {L R' : Lg} {σ σ0 : SS} {g : TG} {tt : TT} {te : TE} {vs : List Nat} {Q : VK}
theorem take_more {α : Type} {R : List α} {i : Nat} {v : α} (h : R[i]? = some v) : R.take (i + 1) = R.take i ++ [v] := by
  rw [List.take_add_one, h]; rfl
/-- a comprehension that keeps every item, its elements told by a list -/
def lcMp (L : Lg) (R : List V) (D : Addr) (i : Nat) : Hp → Prop := lcNx (fun _ (_ : Unit) => L) (fun i _ => R.take i) (fun _ _ => True) D i
theorem t_lcMp {D : Addr} {i : Nat} {v : V} {R : List V} {M : Lg} {R2 : Lg} (hp : Pick D (.lst (R.take i)) M R2) (hv : R[i]? = some v) (hz : R.length ≤ sizeLine) (hM : Sub R2 L) : Tr M fun H => lcAdd D (lcMp L R D (i + 1)) v H := by
  refine t_lcAdd () trivial hp ?_ (take_more hv).symm hM
  have := (List.getElem?_eq_some_iff.mp hv).1
  rw [List.length_take]
  omega
theorem t_lcMap {J : It} {n : Nat} {val : Nat → V → Lg → Prop} {Src : Lg → Prop} (wk : Wk J n val Src) (hw : wipe σ vs = σ0) (R : List V) (hR : R.length = n) (hsrc : ∀ x, Src (x :: L))
    (hs : ∀ D i v L', i < n → val i v L' → Tr (L' ++ (D, .lst (R.take i)) :: L) fun H => g v σ0 H fun σ2 H2 => wipe σ2 vs = σ0 ∧ tt σ2 H2 fun b H3 => if b = true then te σ2 H3 (lcAdd D (lcMp L R D (i + 1))) else lcMp L R D (i + 1) H3)
    (hd : ∀ D, Tr ((D, .lst R) :: L) fun H => Q (.ref D) H) : Tr L fun H => lcK g tt te vs σ Q J H :=
  t_lcK wk hw (fun _ (_ : Unit) => L) (fun i _ => R.take i) (fun _ _ => True) ⟨(), trivial, rfl, .refl⟩ (fun D i y _ => hsrc _) (fun D i y v L' hi _ hv => hs D i v L' hi hv) fun D y _ => by
    rw [show R.take n = R from List.take_of_length_le (by omega)]
    exact hd D
theorem InL.cons {a : Addr} {xs : List V} {x : Addr × HO} (h : InL a xs L) : InL a xs (x :: L) := let ⟨_, p⟩ := h; ⟨_, p.tail⟩
theorem InT.cons {a : Addr} {xs : List V} {x : Addr × HO} (h : InT a xs L) : InT a xs (x :: L) := let ⟨_, p⟩ := h; ⟨_, p.tail⟩
theorem InL.of {a : Addr} {xs : List V} (h : (a, .lst xs) ∈ L) : InL a xs L := Pick.of_mem h
theorem InT.of {a : Addr} {xs : List V} (h : (a, .tup xs) ∈ L) : InT a xs L := Pick.of_mem h
/-- a list's text in the ledger is told otherwise -/
theorem Tr.lcast {a : Addr} {xs ys : List V} {G : Hp → Prop} (e : xs = ys) (t : Tr ((a, .lst ys) :: L) G) : Tr ((a, .lst xs) :: L) G := by rw [e]; exact t
end
end Hz
namespace Hz
open PySem PySem.Spec PyProof.Rows L2 RZ
section
variable {K : PySem.W.Frag} {h : Heap} {mg : Str → Option Value}
/-- a def as the head tells it -/
theorem df_mk (X : K.In h) (G : h.Ns mainGlobals mg) {x : Str} {st : Stmt} {f : Addr} {od an : Option Addr} {sl : Array (Option Value)} {oc kV dc pm cd ct : Value}
    (a : PySem.W.nsIn K mainGlobals x = some (some (.ref f))) (l : K.lookup f = some ⟨oc, od, .func (PySem.W.fnOf x x (defArgs st) (defBody st) (defScope st) .none kV dc pm an cd ct), sl⟩)
    (c : PySem.W.codeIn K cd x = true) (k : PySem.W.keepIn K (.ref f) = true) : Df K mg x st := ⟨f, _, PySem.W.mg_of X G a, fun_mk l c k⟩
theorem gv_mk (X : K.In h) (G : h.Ns mainGlobals mg) {x : Str} {v : V} {u : Value} (a : PySem.W.nsIn K mainGlobals x = some (some u)) (r : RelV v u) : GV mg x v := ⟨u, PySem.W.mg_of X G a, r⟩
theorem no_mk (X : K.In h) (G : h.Ns mainGlobals mg) {x : Str} (a : PySem.W.nsIn K mainGlobals x = some none) : mg x = none := PySem.W.mg_none_of X G a
end
end Hz

namespace Hz
open PySem PySem.Spec PyProof.Rows L2 RZ
/-! ### keywords -/
/-- the values by place, if they are m and n -/
def gP {α : Type} (m n : Nat) (is : List Nat) (us ws : List α) : List α := bif us.length == m && ws.length == n then is.filterMap fun i => (us ++ ws)[i]? else []
theorem vals_get {vs : List V} {us : List Value} (r : Vals vs us) : ∀ i : Nat, (∃ v u, vs[i]? = some v ∧ us[i]? = some u ∧ RelV v u) ∨ (vs[i]? = none ∧ us[i]? = none) := by
  induction r with
  | nil => intro i; exact .inr ⟨rfl, rfl⟩
  | cons h _ ih =>
    intro i
    cases i with
    | zero => exact .inl ⟨_, _, rfl, rfl, h⟩
    | succ i => simpa using ih i
theorem gP_rel (m n : Nat) (is : List Nat) {vs : List V} {us : List Value} {zs : List V} {ws : List Value} (r : Vals vs us) (q : Vals zs ws) : Vals (gP m n is vs zs) (gP m n is us ws) := by
  unfold gP
  rw [r.length, q.length]
  cases (us.length == m && ws.length == n) with
  | false => exact .nil
  | true =>
    have a := vals_get (r.append q)
    simp only [cond_true]
    induction is with
    | nil => exact .nil
    | cons i is ih =>
      rw [List.filterMap_cons, List.filterMap_cons]
      rcases a i with ⟨v, u, h1, h2, h3⟩ | ⟨h1, h2⟩
      · rw [h1, h2]; exact .cons h3 ih
      · rw [h1, h2]; exact ih
def tCallGK (sp : Sp) (m n : Nat) (is : List Nat) (E : L2.St → XK) (t tk : TA) : TE := fun σ H Q => t σ H fun vs H1 => tk σ H1 fun zs H2 => sp (gP m n is vs zs) H2 Q (E σ)
section
variable {X : Cx} {CX : CXT} {k : Nat} {ps ks : List Str} {sp : Sp} {E : L2.St → XK} {x : Str} {p pos : Pos} {e : Expr} {es : List Expr} {kws : List Keyword} {t tk : TA} {st : Stmt} {m n : Nat} {is : List Nat}
theorem run_GK {pins : List (Addr × Obj)} {σ : L2.St} {H : Hp} {s : Shared} {Q : VK} {us ws : List Value} {vs zs : List V} {f : Addr} {fd : FuncData} (F : FnG X.prog X.w X.K X.mg X.base CX k f fd ps sp) (hr : RoomG k X.A)
    (hb : (gP m n is us ws).length = ps.length → BindsTo s fd ⟨us, ks.zip ws⟩ (ps.zip (gP m n is us ws))) (hx : PassesAt CX X σ (E σ)) (I : Inv X pins σ H s) (r : Vals vs us) (rz : Vals zs ws) (h : sp (gP m n is vs zs) H Q (E σ)) :
    wpAny (model X.prog X.w) X.A (call (.ref f) us (ks.zip ws)) (EP X pins σ Q) X.xe s := by
  have r2 := gP_rel m n is r rz
  have hl : (gP m n is us ws).length = ps.length := by rw [← r2.length]; exact F.len _ _ _ _ h
  refine wpAny_call (codeAny_mono (F.run X.A X.stack s H ⟨us, ks.zip ws⟩ _ _ Q (E σ) hr I.env0 (hb hl) r2 h) fun r s' hq => ?_)
  match r, hq with
  | .error e, hq => exact hx pins H s e s' I hq
  | .ok (.ret u), hq => exact I.after hq
  | .ok .next, hq => exact hq.elim
  | .ok .brk, hq => exact hq.elim
  | .ok .cont, hq => exact hq.elim
theorem gP_shape {α : Type} {us ws : List α} {k : Nat} (h : (gP m n is us ws).length = k + 1) : us.length = m ∧ ws.length = n := by
  unfold gP at h
  cases e : (us.length == m && ws.length == n) with
  | true =>
    rw [Bool.and_eq_true, beq_iff_eq, beq_iff_eq] at e
    exact e
  | false => rw [e] at h; cases h
/-- f(e, .., a = v, ..) -/
theorem pe_callGK (D : Df X.K X.mg x st) (F : Ok X.prog X.w X.K X.mg X.base CX k x ps sp) (hr : RoomG k X.A) (hx : ∀ σ, PassesAt CX X σ (E σ)) (m n : Nat) (is : List Nat) (ks : List Str) (hps : ∃ k, ps.length = k + 1)
    (hb : ∀ (kV doc pm : Value) (an : Option Addr) (cdv ct : Value) (us ws : List Value), us.length = m → ws.length = n → bindArgs (PySem.W.fnOf x x (defArgs st) (defBody st) (defScope st) .none kV doc pm an cdv ct) ⟨us, ks.zip ws⟩ = pure (ps.zip (gP m n is us ws)))
    (ha : PA X (e :: es) t) (hkw : PK X kws tk) (hg : Gl X x := by rfl) (hall : (backToKw pos (keywordEach kws X.env)).all (·.1.isSome) = true := by rfl) (hks : (backToKw pos (keywordEach kws X.env)).filterMap (·.1) = ks := by rfl)
    (hdb : (x == ("__debug__" : Str)) = false := by decide) (he : starEach (e :: es) X.env = (false, eval e X.env) :: starEach es X.env := by rfl)
    (hpl : ((backTo pos (starEach (e :: es) X.env)).any (·.1) || (backToKw pos (keywordEach kws X.env)).any (·.1.isNone)) = false := by rfl) : PE X (.Call (.Name x p) (e :: es) kws pos) (tCallGK sp m n is E t tk) := by
  obtain ⟨f, fd, hm, hk, _, F, oc, od, osl, lk⟩ := F
  obtain ⟨f', fd', hm', G⟩ := D
  obtain ⟨oc', od', kV, doc, pm, an, cdv, ct, osl', rfl, lk', hcd⟩ := G.ex
  rw [hm] at hm'
  cases hm'
  rw [lk] at lk'
  cases lk'
  refine ⟨fun pins s σ H Q I h => wpAny_Call_Name_kw (ld_glob I hg hm (PySem.W.callWith_KW (h₀ := X.base) I.ok.mod.kin hk hall ?_ hpl he) hdb)⟩
  refine thn (ha.run pos pins s σ H _ I h) fun us s1 ⟨vs, H1, I1, r, q⟩ => ?_
  refine thn (hkw.run pos pins s1 σ H1 _ I1 q) fun ws s2 ⟨zs, H2, I2, rz, q2⟩ => ⟨I2.kIn, ?_⟩
  rw [hks]
  refine run_GK F hr (fun hl => ?_) (hx σ) I2 r rz q2
  obtain ⟨k, ek⟩ := hps
  obtain ⟨h1, h2⟩ := gP_shape (hl.trans ek)
  exact .of_eq (hb kV doc pm an cdv ct us ws h1 h2)
/-- f(a = v, ..) -/
theorem pe_callGK0 (D : Df X.K X.mg x st) (F : Ok X.prog X.w X.K X.mg X.base CX k x ps sp) (hr : RoomG k X.A) (hx : ∀ σ, PassesAt CX X σ (E σ)) (n : Nat) (is : List Nat) (ks : List Str) (hps : ∃ k, ps.length = k + 1)
    (hb : ∀ (kV doc pm : Value) (an : Option Addr) (cdv ct : Value) (us ws : List Value), us.length = 0 → ws.length = n → bindArgs (PySem.W.fnOf x x (defArgs st) (defBody st) (defScope st) .none kV doc pm an cdv ct) ⟨us, ks.zip ws⟩ = pure (ps.zip (gP 0 n is us ws)))
    (hkw : PK X kws tk) (hg : Gl X x := by rfl) (hall : (backToKw pos (keywordEach kws X.env)).all (·.1.isSome) = true := by rfl) (hks : (backToKw pos (keywordEach kws X.env)).filterMap (·.1) = ks := by rfl)
    (hdb : (x == ("__debug__" : Str)) = false := by decide)
    (hpl : ((backTo pos (starEach [] X.env)).any (·.1) || (backToKw pos (keywordEach kws X.env)).any (·.1.isNone)) = false := by rfl) : PE X (.Call (.Name x p) [] kws pos) (tCallGK sp 0 n is E tNil tk) := by
  obtain ⟨f, fd, hm, hk, _, F, oc, od, osl, lk⟩ := F
  obtain ⟨f', fd', hm', G⟩ := D
  obtain ⟨oc', od', kV, doc, pm, an, cdv, ct, osl', rfl, lk', hcd⟩ := G.ex
  rw [hm] at hm'
  cases hm'
  rw [lk] at lk'
  cases lk'
  refine ⟨fun pins s σ H Q I h => wpAny_Call_Name_kw (ld_glob I hg hm (PySem.W.callWith_KW0 (h₀ := X.base) I.ok.mod.kin hk hall ?_ hpl) hdb)⟩
  refine thn (hkw.run pos pins s σ H _ I h) fun ws s2 ⟨zs, H2, I2, rz, q2⟩ => ⟨I2.kIn, ?_⟩
  rw [hks]
  refine run_GK (us := []) F hr (fun hl => ?_) (hx σ) I2 .nil rz q2
  obtain ⟨k, ek⟩ := hps
  obtain ⟨h1, h2⟩ := gP_shape (hl.trans ek)
  exact .of_eq (hb kV doc pm an cdv ct [] ws h1 h2)
end
section
variable {L : Lg} {σ : SS} {Q : VK} {t tk : TA} {sp : Sp} {E : SS → XK} {m n : Nat} {is : List Nat}
theorem t_callGK (k : Tr L fun H => t σ H fun vs H1 => tk σ H1 fun zs H2 => sp (gP m n is vs zs) H2 Q (E σ)) : Tr L fun H => tCallGK sp m n is E t tk σ H Q := k
end
end Hz

/-! Hz, part O: lists of ints, their texts; numbers' sizes. -/
namespace Hz
open PySem PySem.Spec PyProof.Rows L2 RZ
/-! ### sizes -/
theorem bits_le {i : Int} {N : Nat} (h0 : 1 ≤ N) (h : i.natAbs < 2 ^ N) : Builtin.Int.intBits i ≤ N := by
  have := PySem.Flt.log2_lt_of h0 h
  unfold Builtin.Int.intBits
  split <;> omega
theorem natAbs_lt {i : Int} {b : Nat} (h1 : -(b : Int) < i) (h2 : i < b) : i.natAbs < b := by omega
theorem pow_ok {i j : Int} (N : Nat) (h0 : 1 ≤ N) (h1 : i.natAbs < 2 ^ N) (h2 : 0 ≤ j) (h3 : (N : Int) * j ≤ 134217728) : cPow i j := by
  refine ⟨h2, ?_⟩
  have h := bits_le h0 h1
  have h4 : (Builtin.Int.intBits i : Int) * j ≤ (N : Int) * j := Int.mul_le_mul_of_nonneg_right (by omega) h2
  have e : (2 : Int) ^ 27 = 134217728 := by decide
  rw [e]; omega
theorem mul_ok {i j : Int} (M N : Nat) (h0 : 1 ≤ M) (h1 : 1 ≤ N) (hi : i.natAbs < 2 ^ M) (hj : j.natAbs < 2 ^ N) (h : M + N ≤ 1000000) : cMul i j := .inr (.inr (wide_mul hi hj h0 h1 h))
theorem div_ok {i j : Int} (N : Nat) (h0 : 1 ≤ N) (h1 : 0 < j) (h2 : j.natAbs < 2 ^ N) (h : N ≤ 9000) : CDivW i j := wide_div h1 h2 h0 h
/-! ### lists of ints by place -/
theorem at_mem {ns : List Int} {i : Int} (h0 : 0 ≤ i) (h1 : i < ns.length) : ∃ n, atI (ns.map V.int) i = some (.int n) ∧ n ∈ ns ∧ ns[i.toNat]? = some n := by
  obtain ⟨j, rfl⟩ : ∃ j : Nat, i = (j : Int) := ⟨i.toNat, by omega⟩
  have hl : j < ns.length := by omega
  refine ⟨ns[j], atI_nat ?_, List.getElem_mem hl, by rw [Int.toNat_natCast, List.getElem?_eq_getElem hl]⟩
  rw [List.getElem?_map, List.getElem?_eq_getElem hl]; rfl
theorem at_int {ns : List Int} {i : Nat} {n : Int} (h : ns[i]? = some n) : atI (ns.map V.int) (i : Int) = some (.int n) := atI_nat (get_mapI h)
where get_mapI {ns : List Int} {i : Nat} {n : Int} (h : ns[i]? = some n) : (ns.map V.int)[i]? = some (.int n) := by rw [List.getElem?_map, h]; rfl
theorem at_lastI (ns : List Int) (n : Int) : atI ((ns ++ [n]).map V.int) (-1) = some (.int n) := by
  rw [List.map_append]; exact atI_last _ _
/-! ### chains -/
def chainI : Int → List Int → Prop
  | _, [] => True
  | b, d :: r => 0 ≤ d ∧ d ≤ b + 1 ∧ chainI d r
def lastD (b : Int) : List Int → Int
  | [] => b
  | d :: r => lastD d r
theorem chainI_append : ∀ (b : Int) (xs ys : List Int), chainI b (xs ++ ys) ↔ chainI b xs ∧ chainI (lastD b xs) ys
  | b, [], ys => by simp [chainI, lastD]
  | b, d :: r, ys => by
    show (0 ≤ d ∧ d ≤ b + 1 ∧ chainI d (r ++ ys)) ↔ (0 ≤ d ∧ d ≤ b + 1 ∧ chainI d r) ∧ chainI (lastD d r) ys
    rw [chainI_append d r ys]
    constructor
    · rintro ⟨h1, h2, h3, h4⟩; exact ⟨⟨h1, h2, h3⟩, h4⟩
    · rintro ⟨⟨h1, h2, h3⟩, h4⟩; exact ⟨h1, h2, h3, h4⟩
theorem lastD_append : ∀ (b : Int) (xs : List Int) (d : Int), lastD b (xs ++ [d]) = d
  | _, [], _ => rfl
  | _, e :: r, d => lastD_append e r d
theorem chainI_bounds : ∀ (b : Int) (xs : List Int), chainI b xs → ∀ (i : Nat) (d : Int), xs[i]? = some d → 0 ≤ d ∧ d ≤ b + 1 + i
  | b, e :: r, h, 0, d, q => by
    cases q
    exact ⟨h.1, by have := h.2.1; omega⟩
  | b, e :: r, h, i + 1, d, q => by
    have := chainI_bounds e r h.2.2 i d (by simpa using q)
    have := h.2.1
    omega
theorem chainI_take : ∀ (b : Int) (xs : List Int) (n : Nat), chainI b xs → chainI b (xs.take n)
  | _, [], n, _ => by rw [List.take_nil]; trivial
  | _, _ :: _, 0, _ => trivial
  | _, d :: r, n + 1, h => ⟨h.1, h.2.1, chainI_take d r n h.2.2⟩
/-! ### the text of a list of ints -/
def reprI (ns : List Int) : Str := (PyData.list (ns.map PyData.int)).shown
theorem shownAll_map (ns : List Int) : PyData.shownAll (ns.map PyData.int) = ns.map fun n => (toString n : Str) := by
  induction ns with
  | nil => simp only [List.map_nil, PyData.shownAll]
  | cons n r ih => simp only [List.map_cons, PyData.shownAll, PyData.shown, ih]
theorem showableAll_map {ns : List Int} (h : ∀ n ∈ ns, n.natAbs < 2 ^ 1000) : PyData.showableAll (ns.map PyData.int) = true := by
  induction ns with
  | nil => simp only [List.map_nil, PyData.showableAll]
  | cons n r ih =>
    have := PySem.Flt.log2_lt_of (by decide : 0 < 1000) (h n (.head _))
    simp only [List.map_cons, PyData.showableAll, PyData.showable, ih fun m hm => h m (.tail _ hm), Bool.and_true, decide_eq_true_eq]
    omega
theorem int_len {n : Int} (h : n.natAbs < 2 ^ 1000) : ((toString n : Str)).length ≤ 1001 := by
  rw [PySem.ofString_length]
  exact int_text_length_le (by decide) (PySem.Flt.log2_lt_of (by decide : 0 < 1000) h)
theorem sum_le_len : ∀ (l : List Nat) (k : Nat), (∀ x ∈ l, x ≤ k) → l.sum ≤ l.length * k
  | [], _, _ => by simp
  | x :: r, k, h => by
    have h1 := sum_le_len r k fun y hy => h y (.tail _ hy)
    have h2 := h x (.head _)
    rw [List.sum_cons, List.length_cons, Nat.add_mul]
    omega
theorem reprI_len {ns : List Int} (h : ∀ n ∈ ns, n.natAbs < 2 ^ 1000) (hl : ns.length ≤ 16000) : (reprI ns).length ≤ sizeLine := by
  have h1 := listText_len_le (PyData.shownAll (ns.map PyData.int))
  have h2 : ((PyData.shownAll (ns.map PyData.int)).map (·.length)).sum ≤ ns.length * 1001 := by
    rw [shownAll_map, List.map_map]
    have := sum_le_len (ns.map ((fun x : Str => x.length) ∘ fun n : Int => (toString n : Str))) 1001 (fun x hx => by
      obtain ⟨n, hn, rfl⟩ := List.mem_map.mp hx
      exact int_len (h n hn))
    rwa [List.length_map] at this
  have h3 : (PyData.shownAll (ns.map PyData.int)).length = ns.length := by rw [shownAll_map, List.length_map]
  unfold reprI
  rw [PyData.shown, sizeLine_eq]
  omega
theorem depthAll_ints : ∀ ns : List Int, PyData.depthAll (ns.map PyData.int) = 0
  | [] => by simp only [List.map_nil, PyData.depthAll]
  | n :: r => by simp only [List.map_cons, PyData.depthAll, PyData.depth, depthAll_ints r, Nat.max_self]
theorem t_reprI {K : PySem.W.Frag} {L : Lg} {Q : VK} {a : Addr} {ns : List Int} (hm : (a, .lst (ns.map V.int)) ∈ L) (h : ∀ n ∈ ns, n.natAbs < 2 ^ 1000) (hl : ns.length ≤ 16000)
    (k : Tr L fun H => Q (.str (reprI ns)) H) : Tr L fun H => rRepr K [.ref a] H Q :=
  t_repr (Dt.ints hm).dpl (by simp only [PyData.showable]; exact showableAll_map h) (by simp only [PyData.depth, depthAll_ints]; decide) (reprI_len h hl) k
/-- == of two lists of ints -/
theorem eqv_ints : ∀ (xs ys : List Int), PyData.eqv (.list (xs.map PyData.int)) (.list (ys.map PyData.int)) = decide (xs = ys) := by
  have all : ∀ (xs ys : List Int), PyData.eqvAll (xs.map PyData.int) (ys.map PyData.int) = decide (xs = ys) := by
    intro xs
    induction xs with
    | nil => intro ys; cases ys <;> simp [PyData.eqvAll]
    | cons x r ih =>
      intro ys
      cases ys with
      | nil => simp [PyData.eqvAll]
      | cons y s => simp only [List.map_cons, PyData.eqvAll, PyData.eqv, ih, List.cons.injEq, Bool.decide_and]; rfl
  intro xs ys
  simp only [PyData.eqv, all]
theorem shaped_ints (ns : List Int) : SeqAt.shaped (.list (ns.map PyData.int)) = true := by
  have c : ∀ ns : List Int, PyData.canLayAll0 (ns.map PyData.int) = true := by
    intro ns
    induction ns with
    | nil => simp [PyData.canLayAll0]
    | cons n r ih => simp [PyData.canLayAll0, PyData.canLay0, ih]
  unfold SeqAt.shaped
  simp [PyData.canLay0, c, PyData.depth, depthAll_ints]
theorem t_eqInts {K : PySem.W.Frag} {L : Lg} {Q : VK} {a b : Addr} {xs ys : List Int} (ha : (a, .lst (xs.map V.int)) ∈ L) (hb : (b, .lst (ys.map V.int)) ∈ L) (k : Tr L fun H => Q (.bl (decide (xs = ys))) H) : Tr L fun H => rEqD K (.ref a) (.ref b) H Q :=
  t_eqD (Dt.ints ha).dpl (Dt.ints hb).dpl (shaped_ints xs) (shaped_ints ys) (by rw [eqv_ints]; exact k)
end Hz
namespace Hz
open PySem PySem.Spec PyProof.Rows L2 RZ
theorem at_lastD {ns : List Int} (b : Int) (h : 1 ≤ ns.length) : atI (ns.map V.int) (-1) = some (.int (lastD b ns)) := by
  obtain ⟨l, x, rfl⟩ : ∃ l x, ns = l ++ [x] := ⟨ns.dropLast, ns.getLast (by intro e; subst e; simp at h), (List.dropLast_concat_getLast _).symm⟩
  rw [lastD_append]
  exact at_lastI l x
theorem lastD_bound : ∀ (b : Int) (ns : List Int), chainI b ns → 1 ≤ ns.length → 0 ≤ lastD b ns ∧ lastD b ns ≤ b + ns.length
  | b, [], _, h => by simp at h
  | b, [d], h, _ => by
    have := h.1; have := h.2.1
    show 0 ≤ d ∧ d ≤ b + ((1 : Nat) : Int)
    omega
  | b, d :: e :: r, h, _ => by
    have ih := lastD_bound d (e :: r) h.2.2 (by simp)
    have := h.2.1
    show 0 ≤ lastD d (e :: r) ∧ lastD d (e :: r) ≤ b + (((e :: r).length + 1 : Nat) : Int)
    omega
theorem map_snoc (ns : List Int) (n : Int) : ns.map V.int ++ [V.int n] = (ns ++ [n]).map V.int := by rw [List.map_append]; rfl
end Hz
namespace Hz
open PySem PySem.Spec PyProof.Rows L2 RZ
theorem depthAll_le : ∀ {ds : List PyData} {d : PyData}, d ∈ ds → d.depth ≤ PyData.depthAll ds
  | e :: r, d, h => by
    rw [PyData.depthAll]
    rcases List.mem_cons.mp h with rfl | h
    · exact Nat.le_max_left _ _
    · exact Nat.le_trans (depthAll_le h) (Nat.le_max_right _ _)
end Hz
namespace Hz
open PySem PySem.Spec PyProof.Rows L2
/-- a, a + 1, .. below b -/
def rgI (a b : Int) : List Int := (List.range (b - a).toNat).map fun i => a + (i : Nat)
theorem rgV_ints (a b : Int) : rgV a b = (rgI a b).map V.int := by unfold rgV rgI; rw [List.map_map]; rfl
theorem rgI_len (a b : Int) : (rgI a b).length = (b - a).toNat := by unfold rgI; rw [List.length_map, List.length_range]
theorem rgI_get {a b : Int} {i : Nat} (h : i < (b - a).toNat) : (rgI a b)[i]? = some (a + i) := by
  unfold rgI
  rw [List.getElem?_map, List.getElem?_range h]; rfl
theorem rep_ints (k : Nat) (n : Int) : (List.replicate k [V.int n]).flatten = (List.replicate k n).map V.int := by
  induction k with
  | zero => rfl
  | succ k ih => rw [List.replicate_succ, List.flatten_cons, ih, List.replicate_succ, List.map_cons]; rfl
end Hz
namespace Hz
open PySem PySem.Spec PyProof.Rows L2 RZ
theorem last_get {ns : List Int} (b : Int) (h : 1 ≤ ns.length) : (ns.map V.int)[(ns.map V.int).length - 1]? = some (.int (lastD b ns)) := by
  obtain ⟨l, x, rfl⟩ : ∃ l x, ns = l ++ [x] := ⟨ns.dropLast, ns.getLast (by intro e; subst e; simp at h), (List.dropLast_concat_getLast _).symm⟩
  rw [lastD_append]
  simp
/-- xs.pop() of ints -/
theorem t_popI {L R : Lg} {Q : VK} {p : Addr} {ns : List Int} (hp : Pick p (.lst (ns.map V.int)) L R) (h : 1 ≤ ns.length) (k : Tr ((p, .lst (ns.dropLast.map V.int)) :: R) fun H => Q (.int (lastD (-1) ns)) H) : Tr L fun H => rPop (.ref p) [] H Q :=
  t_popM hp (last_get (-1) h) (Tr.lcast List.map_dropLast.symm k)
/-- xs.append(n) of ints -/
theorem t_appI {L R : Lg} {Q : VK} {p : Addr} {ns : List Int} {n : Int} (hp : Pick p (.lst (ns.map V.int)) L R) (h : ns.length < sizeLine) (k : Tr ((p, .lst ((ns ++ [n]).map V.int)) :: R) fun H => Q .non H) : Tr L fun H => rAppend (.ref p) [.int n] H Q :=
  t_append hp (by rw [List.length_map]; exact h) (Tr.lcast (map_snoc ns n) k)
end Hz
namespace Hz
open PySem PySem.Spec PyProof.Rows L2 RZ
/-! ### the law's own list, read -/
/-- wherever the ledger stands, the law's list is at a -/
def Scr (K : PySem.W.Frag) (L : Lg) (a : Addr) (ns : List Int) : Prop := ∀ H, Led H L → ScrL K H a (ns.map V.int)
theorem Scr.mono {K : PySem.W.Frag} {L M : Lg} {a : Addr} {ns : List Int} (h : Scr K L a ns) (s : ∀ {H}, Led H M → Led H L) : Scr K M a ns := fun H l => h H (s l)
theorem Scr.cons {K : PySem.W.Frag} {L : Lg} {x : Addr × HO} {a : Addr} {ns : List Int} (h : Scr K L a ns) : Scr K (x :: L) a ns := h.mono Led.tail
theorem scr_start {K : PySem.W.Frag} {H : Hp} {a : Addr} {ns : List Int} (h : ScrL K H a (ns.map V.int)) : ∃ L, Led H L ∧ Scr K L a ns := by
  obtain ⟨its, r, z, h | h⟩ := h
  · refine ⟨[(a, .frz { cls := .type "list", data := .seq its.toArray } (.lst (ns.map V.int)))], ⟨fun p hp => ?_, by simp⟩, fun H l => ⟨its, r, z, .inl (l.has _ (.head _))⟩⟩
    rw [List.mem_singleton.mp hp]
    exact h
  · exact ⟨[], .nil, fun H _ => ⟨its, r, z, .inr h⟩⟩
section
variable {L R : Lg} {Q : VK} {K : PySem.W.Frag} {a b : Addr} {ns : List Int} {ys : List V}
theorem t_lenSc (h : Scr K L a ns) (k : Tr L fun H => Q (.int ns.length) H) : Tr L fun H => rLen K [.ref a] H Q := fun H l => ⟨_, _, rfl, .inl ⟨_, (h H l).sq, by rw [List.length_map]⟩, k H l⟩
theorem t_catSc (h : Scr K L a ns) (hp : Pick b (.lst ys) L R) (hz : ns.length + ys.length ≤ sizeLine) (k : ∀ p, Tr ((p, .lst (ns.map V.int ++ ys)) :: L) fun H => Q (.ref p) H) : Tr L fun H => rCatS K (.ref a) (.ref b) H Q :=
  fun H l => ⟨a, b, _, ys, rfl, rfl, h H l, l.get hp, by rw [List.length_map]; exact hz, fun p hp' => k p _ (l.new hp')⟩
theorem t_slSc {lo hi : Option Int} (h : Scr K L a ns) (k : ∀ p, Tr ((p, .lst (cutV (ns.map V.int) lo hi)) :: L) fun H => Q (.ref p) H) : Tr L fun H => rSlL K (.ref a) lo hi H Q := fun H l => ⟨a, _, rfl, (h H l).sq, fun p hp' => k p _ (l.new hp')⟩
theorem t_ixSc {m : Int} {v : V} (h : Scr K L a ns) (ha : atI (ns.map V.int) m = some v) (k : Tr L fun H => Q v H) : Tr L fun H => rIxL K (.ref a) (.int m) H Q := fun H l => ⟨a, _, m, v, rfl, rfl, (h H l).sq, ha, k H l⟩
theorem dpl_sc (h : Scr K L a ns) : DpL K L (.ref a) (.list (ns.map PyData.int)) := fun H l => .lst (h H l).sq (dpAll_ints ns)
/-- script == [] -/
theorem t_eqSc {zs : List Int} (h : Scr K L a ns) (hb : (b, .lst (zs.map V.int)) ∈ L) (k : Tr L fun H => Q (.bl (decide (ns = zs))) H) : Tr L fun H => rEqD K (.ref a) (.ref b) H Q :=
  t_eqD (dpl_sc h) (Dt.ints hb).dpl (shaped_ints ns) (shaped_ints zs) (by rw [eqv_ints]; exact k)
theorem t_neSc {zs : List Int} (h : Scr K L a ns) (hb : (b, .lst (zs.map V.int)) ∈ L) (k : Tr L fun H => Q (.bl (!decide (ns = zs))) H) : Tr L fun H => rNeD K (.ref a) (.ref b) H Q :=
  t_neD (dpl_sc h) (Dt.ints hb).dpl (shaped_ints ns) (shaped_ints zs) (by rw [eqv_ints]; exact k)
end
/-- a slice of ints -/
def cutI (ns : List Int) (lo hi : Option Int) : List Int := (ns.drop (HT.sIx ns.length 0 lo)).take (HT.sIx ns.length ns.length hi - HT.sIx ns.length 0 lo)
theorem cut_ints (ns : List Int) (lo hi : Option Int) : cutV (ns.map V.int) lo hi = (cutI ns lo hi).map V.int := by
  unfold cutV cutI
  rw [List.length_map, List.map_take, List.map_drop]
theorem cutI_len (ns : List Int) (lo hi : Option Int) : (cutI ns lo hi).length ≤ ns.length := by
  unfold cutI
  rw [List.length_take, List.length_drop]; omega
theorem cutI_mem {ns : List Int} {lo hi : Option Int} {n : Int} (h : n ∈ cutI ns lo hi) : n ∈ ns := List.mem_of_mem_drop (List.mem_of_mem_take h)
end Hz

/-! Hz, part F: ints by place; filtered comprehensions; members; a list's places. -/
namespace Hz
open PySem PySem.Spec PyProof.Rows L2 RZ
/-! ### ints by place -/
/-- the i-th of ns -/
def atD (ns : List Int) (i : Int) : Int := ns.getD i.toNat 0
theorem atD_get {ns : List Int} {i : Int} (h0 : 0 ≤ i) (h1 : i < ns.length) : ns[i.toNat]? = some (atD ns i) := by
  unfold atD
  rw [List.getD_eq_getElem?_getD, List.getElem?_eq_getElem (by omega : i.toNat < ns.length)]; rfl
theorem atD_nat {ns : List Int} {i : Nat} {d : Int} (h : ns[i]? = some d) : atD ns (i : Int) = d := by
  unfold atD
  rw [Int.toNat_natCast, List.getD_eq_getElem?_getD, h]; rfl
theorem atD_at {ns : List Int} {i : Int} (h0 : 0 ≤ i) (h1 : i < ns.length) : atI (ns.map V.int) i = some (.int (atD ns i)) := by
  have h := atI_nat (α := V) (xs := ns.map V.int) (j := i.toNat) (v := .int (atD ns i)) (by rw [List.getElem?_map, atD_get h0 h1]; rfl)
  rwa [Int.toNat_of_nonneg h0] at h
theorem map_erase {α β : Type} {f : α → β} : ∀ (ns : List α) (k : Nat), (ns.eraseIdx k).map f = (ns.map f).eraseIdx k
  | [], _ => rfl
  | _ :: _, 0 => rfl
  | n :: r, k + 1 => by
    show f n :: (r.eraseIdx k).map f = f n :: (r.map f).eraseIdx k
    rw [map_erase r k]
theorem atD_mem {ns : List Int} {i : Int} (h0 : 0 ≤ i) (h1 : i < ns.length) : atD ns i ∈ ns := List.mem_of_getElem? (atD_get h0 h1)
section
variable {L R R' : Lg} {σ σ0 : SS} {Q : VK} {K : PySem.W.Frag} {a b p : Addr} {ns ms : List Int} {m n : Int}
theorem t_ixI (hp : Pick p (.lst (ns.map V.int)) L R) (h0 : 0 ≤ m) (h1 : m < ns.length) (k : Tr L fun H => Q (.int (atD ns m)) H) : Tr L fun H => rIxL K (.ref p) (.int m) H Q := t_ixL hp (atD_at h0 h1) k
theorem t_lenI (hp : Pick p (.lst (ns.map V.int)) L R) (k : Tr L fun H => Q (.int ns.length) H) : Tr L fun H => rLen K [.ref p] H Q := t_lenL hp (by rw [List.length_map]; exact k)
theorem t_slI {lo hi : Option Int} (hp : Pick a (.lst (ns.map V.int)) L R) (k : ∀ p, Tr ((p, .lst ((cutI ns lo hi).map V.int)) :: L) fun H => Q (.ref p) H) : Tr L fun H => rSlL K (.ref a) lo hi H Q := t_slL hp fun p => Tr.lcast (cut_ints ns lo hi) (k p)
theorem t_catI (hp : Pick a (.lst (ns.map V.int)) L R) (hq : Pick b (.lst (ms.map V.int)) L R') (hz : ns.length + ms.length ≤ sizeLine) (k : ∀ p, Tr ((p, .lst ((ns ++ ms).map V.int)) :: L) fun H => Q (.ref p) H) : Tr L fun H => rCat (.ref a) (.ref b) H Q :=
  t_cat hp hq (by rw [List.length_map, List.length_map]; exact hz) fun p => Tr.lcast List.map_append.symm (k p)
theorem t_revI (hp : Pick a (.lst (ns.map V.int)) L R) (k : ∀ p, Tr ((p, .lst (ns.reverse.map V.int)) :: L) fun H => Q (.ref p) H) : Tr L fun H => newRev K (.ref a) H Q := t_newRev hp fun p => Tr.lcast List.map_reverse.symm (k p)
theorem t_rgI {m n : Int} (h : RgOk m n) (k : ∀ p, Tr ((p, .lst ((rgI m n).map V.int)) :: L) fun H => Q (.ref p) H) : Tr L fun H => newRg m n H Q := t_newRg h fun p => Tr.lcast (rgV_ints m n) (k p)
theorem t_listI (hp : Pick a (.lst (ns.map V.int)) L R) (k : ∀ p, Tr ((p, .lst (ns.map V.int)) :: L) fun H => Q (.ref p) H) : Tr L fun H => rList K [.ref a] H Q := t_listL hp k
/-- a new list of ints, item by item -/
theorem t_newI (ns : List Int) (hz : ns.length ≤ sizeLine) (k : ∀ p, Tr ((p, .lst (ns.map V.int)) :: L) fun H => Q (.ref p) H) : Tr L fun H => newL (ns.map V.int) H Q := t_newL (by rw [List.length_map]; exact hz) k
theorem t_setI {i : Int} {v : Int} {G : Hp → Prop} (hp : Pick p (.lst (ns.map V.int)) L R) (h0 : 0 ≤ i) (h1 : i < ns.length) (k : Tr ((p, .lst ((ns.set i.toNat v).map V.int)) :: R) G) : Tr L fun H => rSetL (.ref p) (.int i) (.int v) H G :=
  t_setL (j := i.toNat) hp (by unfold ixN; rw [List.length_map]; first | rfl | (split <;> simp_all <;> omega)) (Tr.lcast List.map_set.symm k)
/-- n in xs, ints -/
theorem inV_ints (n : Int) : ∀ ns : List Int, inV (.int n) (ns.map V.int) = decide (n ∈ ns)
  | [] => rfl
  | m :: r => by
    have ih := inV_ints n r
    unfold inV at ih ⊢
    rw [List.map_cons, List.any_cons, ih]
    have e : eqV (.int m) (.int n) = decide (n = m) := by
      unfold eqV
      rw [Bool.eq_iff_iff, decide_eq_true_eq, beq_iff_eq]; exact eq_comm
    rw [e, ← Bool.decide_or]
    congr 1
    simp
theorem flat_ints (ns : List Int) : (ns.map V.int).all flatV = true := by
  induction ns with
  | nil => rfl
  | cons n r ih => rw [List.map_cons, List.all_cons, ih]; rfl
theorem t_inI (hp : Pick p (.lst (ns.map V.int)) L R) (k : Tr L fun H => Q (.bl (decide (n ∈ ns))) H) : Tr L fun H => rIn K false (.int n) (.ref p) H Q :=
  fun H l => ⟨p, _, rfl, .inl (sqL hp l), rfl, flat_ints ns, by rw [inV_ints]; exact k H l⟩
theorem t_notInI (hp : Pick p (.lst (ns.map V.int)) L R) (k : Tr L fun H => Q (.bl (!decide (n ∈ ns))) H) : Tr L fun H => rIn K true (.int n) (.ref p) H Q :=
  fun H l => ⟨p, _, rfl, .inl (sqL hp l), rfl, flat_ints ns, by rw [inV_ints]; exact k H l⟩
theorem t_neInts {xs ys : List Int} (ha : (a, .lst (xs.map V.int)) ∈ L) (hb : (b, .lst (ys.map V.int)) ∈ L) (k : Tr L fun H => Q (.bl (!decide (xs = ys))) H) : Tr L fun H => rNeD K (.ref a) (.ref b) H Q :=
  t_neD (Dt.ints ha).dpl (Dt.ints hb).dpl (shaped_ints xs) (shaped_ints ys) (by rw [eqv_ints]; exact k)
/-- tuples of ints -/
theorem eqv_intsT (xs ys : List Int) : PyData.eqv (.tuple (xs.map PyData.int)) (.tuple (ys.map PyData.int)) = decide (xs = ys) := by
  have h := eqv_ints xs ys
  simp only [PyData.eqv] at h ⊢
  exact h
theorem shaped_intsT (ns : List Int) : SeqAt.shaped (.tuple (ns.map PyData.int)) = true := by
  have c : ∀ ns : List Int, PyData.canLayAll0 (ns.map PyData.int) = true := by
    intro ns
    induction ns with
    | nil => simp [PyData.canLayAll0]
    | cons n r ih => simp [PyData.canLayAll0, PyData.canLay0, ih]
  unfold SeqAt.shaped
  simp [PyData.canLay0, c, PyData.depth, depthAll_ints]
theorem t_eqIntsT {xs ys : List Int} (ha : (a, .tup (xs.map V.int)) ∈ L) (hb : (b, .tup (ys.map V.int)) ∈ L) (k : Tr L fun H => Q (.bl (decide (xs = ys))) H) : Tr L fun H => rEqD K (.ref a) (.ref b) H Q :=
  t_eqD (Dt.intsT ha).dpl (Dt.intsT hb).dpl (shaped_intsT xs) (shaped_intsT ys) (by rw [eqv_intsT]; exact k)
theorem t_neIntsT {xs ys : List Int} (ha : (a, .tup (xs.map V.int)) ∈ L) (hb : (b, .tup (ys.map V.int)) ∈ L) (k : Tr L fun H => Q (.bl (!decide (xs = ys))) H) : Tr L fun H => rNeD K (.ref a) (.ref b) H Q :=
  t_neD (Dt.intsT ha).dpl (Dt.intsT hb).dpl (shaped_intsT xs) (shaped_intsT ys) (by rw [eqv_intsT]; exact k)
/-- xs.insert(i, y) -/
def rInsert : V → List V → Hp → VK → Prop := fun x vs H Q => ∃ (l : Addr) (xs : List V) (i : Int) (y : V), x = .ref l ∧ vs = [.int i, y] ∧ H l = some (.lst xs) ∧ xs.length < sizeLine ∧ 0 ≤ i ∧ i < 2 ^ 63 ∧
    Q .non (upd H l (.lst (xs.take i.toNat ++ [y] ++ xs.drop i.toNat)))
theorem mt_ins {X : Cx} : MtR X "list.insert" rInsert := mt_insert
theorem t_insI {i v : Int} (hp : Pick p (.lst (ns.map V.int)) L R) (hz : ns.length < sizeLine) (h0 : 0 ≤ i) (h1 : i < 2 ^ 63) (k : Tr ((p, .lst ((ns.take i.toNat ++ [v] ++ ns.drop i.toNat).map V.int)) :: R) fun H => Q .non H) : Tr L fun H => rInsert (.ref p) [.int i, .int v] H Q :=
  fun H l => ⟨p, _, i, _, rfl, rfl, l.get hp, by rw [List.length_map]; exact hz, h0, h1, by
    have := k _ (l.pick hp).put
    rw [List.map_append, List.map_append, List.map_take, List.map_drop] at this
    exact this⟩
theorem t_popAtI {i : Int} (hp : Pick p (.lst (ns.map V.int)) L R) (h0 : 0 ≤ i) (h1 : i < ns.length) (h2 : ns.length ≤ sizeLine) (k : Tr ((p, .lst ((ns.eraseIdx i.toNat).map V.int)) :: R) fun H => Q (.int (atD ns i)) H) : Tr L fun H => rPopAt (.ref p) [.int i] H Q :=
  fun H l => ⟨p, _, i, i.toNat, .int (atD ns i), rfl, rfl, l.get hp, by omega, by rw [sizeLine_eq] at h2; omega, by
    unfold seqIndex?
    rw [List.length_map]
    simp only [show ¬ i < 0 by omega, if_false]
    rw [if_pos (by simp; omega)], by rw [List.getElem?_map, atD_get h0 h1]; rfl, by
    have := k _ (l.pick hp).put
    rwa [map_erase] at this⟩
end
section
variable {L : Lg} {G1 G2 : Hp → Prop} {c : Prop} [Decidable c]
theorem t_ifDT (h : c) (k : Tr L G1) : Tr L fun H => if decide c = true then G1 H else G2 H := t_ifT (decide_eq_true h) k
theorem t_ifDF (h : ¬ c) (k : Tr L G2) : Tr L fun H => if decide c = true then G1 H else G2 H := t_ifF (decide_eq_false h) k
theorem t_ifNT (h : ¬ c) (k : Tr L G1) : Tr L fun H => if (!decide c) = true then G1 H else G2 H := t_ifT (by rw [decide_eq_false h]; rfl) k
theorem t_ifNF (h : c) (k : Tr L G2) : Tr L fun H => if (!decide c) = true then G1 H else G2 H := t_ifF (by rw [decide_eq_true h]; rfl) k
theorem t_ifR {α : Type} [DecidableEq α] {x : α} (k : Tr L G1) : Tr L fun H => if decide (x = x) = true then G1 H else G2 H := t_ifDT rfl k
theorem t_ifNR {α : Type} [DecidableEq α] {x : α} (k : Tr L G2) : Tr L fun H => if (!decide (x = x)) = true then G1 H else G2 H := t_ifNF rfl k
end
theorem cutI_from {ns : List Int} {i : Int} (h0 : 0 ≤ i) (h1 : i ≤ ns.length) : cutI ns (some i) none = ns.drop i.toNat := by
  unfold cutI
  have e : HT.sIx ns.length 0 (some i) = i.toNat := by
    show (if i < 0 then _ else min i.toNat ns.length) = i.toNat
    rw [if_neg (by omega)]; omega
  rw [e]
  show (ns.drop i.toNat).take (ns.length - i.toNat) = ns.drop i.toNat
  exact List.take_of_length_le (by rw [List.length_drop]; omega)
theorem cutI_to {ns : List Int} {i : Int} (h0 : 0 ≤ i) (h1 : i ≤ ns.length) : cutI ns none (some i) = ns.take i.toNat := by
  unfold cutI
  have e : HT.sIx ns.length ns.length (some i) = i.toNat := by
    show (if i < 0 then _ else min i.toNat ns.length) = i.toNat
    rw [if_neg (by omega)]; omega
  rw [e]
  show ((ns.drop 0).take (i.toNat - 0)) = ns.take i.toNat
  rw [List.drop_zero, Nat.sub_zero]
/-! ### filtered comprehensions -/
/-- of the first i turns those that b keeps, told by o -/
def fl {α : Type} (b : Nat → Bool) (o : Nat → α) (i : Nat) : List α := ((List.range i).filter b).map o
theorem fl_succ {α : Type} (b : Nat → Bool) (o : Nat → α) (i : Nat) : fl b o (i + 1) = if b i = true then fl b o i ++ [o i] else fl b o i := by
  unfold fl
  rw [List.range_succ, List.filter_append, List.map_append]
  cases h : b i <;> simp [h]
theorem fl_len {α : Type} (b : Nat → Bool) (o : Nat → α) (i : Nat) : (fl b o i).length ≤ i := by
  unfold fl
  rw [List.length_map]
  exact Nat.le_trans (List.length_filter_le _ _) (by rw [List.length_range]; exact Nat.le_refl _)
section
variable {L : Lg} {σ σ0 : SS} {g : TG} {tt : TT} {te : TE} {vs : List Nat} {Q : VK} {b : Nat → Bool} {o : Nat → V} {D : Addr} {i : Nat} {M R2 : Lg}
def lcFl (L : Lg) (b : Nat → Bool) (o : Nat → V) (D : Addr) (i : Nat) : Hp → Prop := lcNx (fun _ (_ : Unit) => L) (fun i _ => fl b o i) (fun _ _ => True) D i
theorem t_lcFlA {v : V} {n : Nat} (hn : i < n) (hz : n ≤ sizeLine) (hb : b i = true) (hv : v = o i) (hp : Pick D (.lst (fl b o i)) M R2) (hM : Sub R2 L) : Tr M fun H => lcAdd D (lcFl L b o D (i + 1)) v H := by
  refine t_lcAdd () trivial hp ?_ (by rw [fl_succ, if_pos hb, hv]) hM
  have := fl_len b o i
  omega
theorem t_lcFlS (hb : b i = false) (hp : Pick D (.lst (fl b o i)) M R2) (hM : Sub R2 L) : Tr M fun H => lcFl L b o D (i + 1) H := by
  refine t_lcSkip () trivial ?_
  have e : fl b o (i + 1) = fl b o i := by rw [fl_succ, if_neg (by rw [hb]; decide)]
  show Sub M ((D, .lst (fl b o (i + 1))) :: L)
  rw [e]
  exact .take hp hM
theorem t_lcFil {J : It} {n : Nat} {val : Nat → V → Lg → Prop} {Src : Lg → Prop} (wk : Wk J n val Src) (hw : wipe σ vs = σ0) (b : Nat → Bool) (o : Nat → V) (hsrc : ∀ x, Src (x :: L))
    (hs : ∀ D i v L', i < n → val i v L' → Tr (L' ++ (D, .lst (fl b o i)) :: L) fun H => g v σ0 H fun σ2 H2 => wipe σ2 vs = σ0 ∧ tt σ2 H2 fun c H3 => if c = true then te σ2 H3 (lcAdd D (lcFl L b o D (i + 1))) else lcFl L b o D (i + 1) H3)
    (hd : ∀ D, Tr ((D, .lst (fl b o n)) :: L) fun H => Q (.ref D) H) : Tr L fun H => lcK g tt te vs σ Q J H :=
  t_lcK wk hw (fun _ (_ : Unit) => L) (fun i _ => fl b o i) (fun _ _ => True) ⟨(), trivial, rfl, .refl⟩ (fun D i y _ => hsrc _) (fun D i y v L' hi _ hv => hs D i v L' hi hv) fun D y _ => hd D
theorem fl_ints (b : Nat → Bool) (o : Nat → Int) (i : Nat) : fl b (fun k => V.int (o k)) i = (fl b o i).map V.int := by unfold fl; rw [List.map_map]; rfl
end
end Hz
namespace Hz
open PySem PySem.Spec PyProof.Rows L2 RZ
/-! ### while, the test may change the heap -/
section
variable {L : Lg} {σ : SS} {D : Ends} {tc : TT} {tb : TS}
variable {α : Type} {S : α → SS} {M : α → Lg} {I : α → Prop} {μ : α → Nat} {n : Nat}
/-- behind the test of a while -/
def whB (tb : TS) (D : Ends) (S : α → SS) (M : α → Lg) (I : α → Prop) (μ : α → Nat) (n : Nat) (σ : SS) (b : Bool) (H : Hp) : Prop :=
  if b = true then ∃ N : SS → Hp → Prop, (∀ σ' H', N σ' H' → ∃ m', m' < n ∧ ∃ y, m' = μ y ∧ I y ∧ σ' = S y ∧ Led H' (M y)) ∧ tb { D with nx := N, ct := N, bk := D.nx } σ H else D.nx σ H
theorem t_whBT (k : Tr L fun H => tb { D with nx := Wst S M I μ n, ct := Wst S M I μ n, bk := D.nx } σ H) : Tr L fun H => whB tb D S M I μ n σ true H := fun H l => by
  refine iteT ?_
  exact ⟨_, fun σ3 H3 ⟨z, iz, lt, e, lz⟩ => ⟨μ z, lt, z, rfl, iz, e, lz⟩, k H l⟩
theorem t_whBF (k : Tr L fun H => D.nx σ H) : Tr L fun H => whB tb D S M I μ n σ false H := fun H l => by
  exact iteF (k H l)
theorem t_whB {c : Prop} [Decidable c] (h1 : c → Tr L fun H => tb { D with nx := Wst S M I μ n, ct := Wst S M I μ n, bk := D.nx } σ H) (h2 : ¬ c → Tr L fun H => D.nx σ H) : Tr L fun H => whB tb D S M I μ n σ (decide c) H := by
  by_cases h : c
  · rw [decide_eq_true h]; exact t_whBT (h1 h)
  · rw [decide_eq_false h]; exact t_whBF (h2 h)
theorem t_whG (S : α → SS) (M : α → Lg) (I : α → Prop) (μ : α → Nat) (h0 : ∃ y, I y ∧ σ = S y ∧ Sub L (M y)) (hs : ∀ y, I y → Tr (M y) fun H => tc (S y) H (whB tb D S M I μ (μ y) (S y))) : Tr L fun H => tWhile tc tb D σ H := by
  intro H l
  obtain ⟨y0, i0, e0, s0⟩ := h0
  refine ⟨fun m σ' H' => ∃ y, m = μ y ∧ I y ∧ σ' = S y ∧ Led H' (M y), ⟨μ y0, y0, rfl, i0, e0, l.sub s0⟩, ?_⟩
  rintro m σ' H' ⟨y, rfl, iy, rfl, ly⟩
  exact hs y iy H' ly
end
end Hz
namespace Hz
open PySem PySem.Spec PyProof.Rows L2 RZ
/-- two ways come together: a new list of ints at p, o otherwise known -/
theorem t_joinO {L : Lg} {G : Hp → Prop} {T : Addr → Hp → Prop} (X : List Int → Addr → HO → Lg) (J : List Int → HO → Prop) (k : (∀ ds p o M, J ds o → Sub M (X ds p o) → Tr M (T p)) → Tr L G)
    (main : ∀ ds p o, J ds o → Tr (X ds p o) (T p)) : Tr L G := k fun ds p o M h s => (main ds p o h).sub s
/-- two ways come together: o otherwise known -/
theorem t_join1 {L : Lg} {G : Hp → Prop} {T : Hp → Prop} (X : HO → Lg) (J : HO → Prop) (k : (∀ o M, J o → Sub M (X o) → Tr M T) → Tr L G) (main : ∀ o, J o → Tr (X o) T) : Tr L G := k fun o M h s => (main o h).sub s
/-- two ways come together -/
theorem t_join0 {L : Lg} {G : Hp → Prop} {T : Hp → Prop} (X : Lg) (k : (∀ M, Sub M X → Tr M T) → Tr L G) (main : Tr X T) : Tr L G := k fun M s => main.sub s
/-- two ways come together: an int -/
theorem t_joinI {L : Lg} {G : Hp → Prop} {T : Int → Hp → Prop} (X : HO → Lg) (J : Int → HO → Prop) (k : (∀ i o M, J i o → Sub M (X o) → Tr M (T i)) → Tr L G) (main : ∀ i o, J i o → Tr (X o) (T i)) : Tr L G := k fun i o M h s => (main i o h).sub s
end Hz
namespace Hz
open PySem PySem.Spec PyProof.Rows L2 RZ
section
variable {L R : Lg} {σ : SS} {Q : VK} {K : PySem.W.Frag} {a : Addr} {ns : List Int} {xs : List V}
theorem t_sortI (hp : Pick a (.lst (ns.map V.int)) L R) (k : ∀ (ns' : List Int) p, ns'.Perm ns → ns'.Pairwise (· ≤ ·) → Tr ((p, .lst (ns'.map V.int)) :: L) fun H => Q (.ref p) H) : Tr L fun H => rSortedI K [.ref a] H Q :=
  fun H l => ⟨a, ns, rfl, sqL hp l, fun ns' p h1 h2 hp' => k ns' p h1 h2 _ (l.new hp')⟩
theorem first_idx {ns : List Int} {y : Int} (h : y ∈ ns) : ∃ j : Nat, ns[j]? = some y ∧ ∀ m : Nat, m < j → ns[m]? ≠ some y := by
  induction ns with
  | nil => cases h
  | cons n r ih =>
    by_cases e : n = y
    · exact ⟨0, by rw [e]; rfl, fun m hm => by omega⟩
    · obtain ⟨j, h1, h2⟩ := ih (by
        rcases List.mem_cons.mp h with h | h
        · exact absurd h.symm e
        · exact h)
      refine ⟨j + 1, by simpa using h1, fun m hm => ?_⟩
      cases m with
      | zero => simpa using e
      | succ m => simpa using h2 m (by omega)
theorem t_indexI {y : Int} (hp : Pick a (.lst (ns.map V.int)) L R) (h : y ∈ ns) (k : ∀ j : Nat, ns[j]? = some y → Tr L fun H => Q (.int (j : Nat)) H) : Tr L fun H => rIndex K (.ref a) [.int y] H Q := by
  obtain ⟨j, h1, h2⟩ := first_idx h
  refine fun H l => ⟨a, ns.map V.int, .int y, j, .int y, rfl, rfl, sqL hp l, rfl, flat_ints ns, by rw [List.getElem?_map, h1]; rfl, (show (y == y) = true from beq_self_eq_true y), fun m z' hm hz => ?_, k j h1 H l⟩
  rw [List.getElem?_map] at hz
  cases e : ns[m]? with
  | none => rw [e] at hz; cases hz
  | some w =>
    rw [e] at hz
    cases hz
    show (w == y) = false
    have := h2 m hm
    rw [e] at this
    simpa using this
theorem t_lstG {n : Nat} {gs : TGs} {Qn : SS → Hp → Prop} (hp : Pick a (.lst xs) L R) (hn : xs.length = n) (k : Tr L fun H => gs xs σ H Qn) : Tr L fun H => gLst K n gs (.ref a) σ H Qn := fun H l => ⟨a, xs, rfl, sqL hp l, hn, k H l⟩
theorem fl_none {α : Type} (o : Nat → α) (n : Nat) : fl (fun _ => false) o n = [] := by unfold fl; rw [List.filter_eq_nil_iff.mpr (fun _ _ => by decide)]; rfl
theorem fl_all {α : Type} (o : Nat → α) (n : Nat) : fl (fun _ => true) o n = (List.range n).map o := by unfold fl; rw [List.filter_eq_self.mpr (fun _ _ => rfl)]
end
end Hz
namespace Hz
open PySem PySem.Spec PyProof.Rows L2 RZ
/-- two ways come together: an int, the heap as it was -/
theorem t_joinE {L : Lg} {G : Hp → Prop} {T : Int → Hp → Prop} (X : Lg) (J : Int → Prop) (k : (∀ i M, J i → Sub M X → Tr M (T i)) → Tr L G) (main : ∀ i, J i → Tr X (T i)) : Tr L G := k fun i M h s => (main i h).sub s
theorem rg_at {a b d : Int} (h0 : 0 ≤ d) (h1 : d < b - a) : atD (rgI a b) d = a + d := by
  have := atD_nat (rgI_get (a := a) (b := b) (i := d.toNat) (by omega))
  rwa [Int.toNat_of_nonneg h0] at this
end Hz
namespace Hz
open PySem PySem.Spec PyProof.Rows L2 RZ
/-- two ways come together ahead of a loop over range(e) -/
theorem t_joinR {L : Lg} {G : Hp → Prop} {g : TG} {tb : TS} {D : Ends} {σ : SS} (X : Lg) (J : Int → Prop) (k : (∀ i M, J i → Sub M X → Tr M (forK g tb D σ (Itr 0 i.toNat))) → Tr L G) (main : ∀ i, J i → Tr X (forK g tb D σ (Itr 0 i.toNat))) : Tr L G := k fun i M h s => (main i h).sub s
end Hz

/-! Hz, part S: a list's slice is stored, with open ends. -/
namespace Hz
open PySem PySem.Spec PyProof.Rows L2 RZ PySem.W
section
variable {prog : Program} {w : World} {A : Around} {s : Shared} {E : Value → Shared → Prop}
theorem bounds_open (n : Nat) : sliceBounds none none none n = (((0 : Nat) : Int), (n : Int), 1) := by
  simp only [sliceBounds, Option.getD_none]
  rfl
theorem bounds_from {a n : Nat} (h : a ≤ n) : sliceBounds (some (a : Int)) none none n = ((a : Int), (n : Int), 1) := by
  simp only [sliceBounds, Option.getD_none]
  have h1 : ¬ ((a : Int) < 0) := by omega
  simp only [h1, if_false, show (1 : Int) > 0 by decide, if_true]
  congr 1
  omega
/-- the store at the level of values: the bounds are told -/
theorem store_slice {l b sl : Addr} {items new : Array Value} {n n2 a c : Nat} {vl vu : Value} {lo hi : Option Int} {Q : Unit → Shared → Prop}
    (e : s.heap.get? l = some { cls := .type "list", data := .seq items n }) (e2 : s.heap.get? b = some { cls := .type "list", data := .seq new n2 }) (hne : l ≠ b)
    (hs : s.heap.IsSliceOf sl vl vu .none) (pl : IsPart vl lo) (pu : IsPart vu hi) (hb : sliceBounds lo hi none items.size = ((a : Int), (c : Int), 1)) (hac : a ≤ c) (hc : c ≤ items.size)
    (hsz : items.size + new.size ≤ sizeLine) (h : Q () { s with heap := s.heap.update l (Obj.mapSeq fun xs => xs.extract 0 a ++ new ++ xs.extract c xs.size) }) :
    wpAny (model prog w) A (setItem (.ref l) (.ref sl) (.ref b)) Q E s := by
  have tl : s.heap.IsList l items := PySem.IsL.isList e
  have tb : s.heap.IsList b new := PySem.IsL.isList e2
  obtain ⟨os, o1, o2, o3⟩ := id hs
  have ts : s.TypeIs (.ref sl) "slice" := ⟨os, o1, o2⟩
  have same : Builtin.List.listSameRef (.ref l) (.ref b) = false := by
    unfold Builtin.List.listSameRef
    exact beq_eq_false_iff_ne.mpr hne
  have big : ((fun xs : Array Value => xs.extract 0 a ++ new ++ xs.extract c xs.size) items).size ≤ sizeLine + 1 := by
    simp only [Array.size_append, Array.size_extract]
    omega
  unfold setItem
  try with_reducible refine wpAny_holding ?_
  first | refine wpAny_bind (wpAny_pure ?_) | skip
  refine wpAny_bind (wpAny_sequenceKey tl.typeIs (by decide) (wpAny_bind (wpAny_callSpecial?_slot (name := Str.ofString "__setitem__") tl.typeIs slot_list_setitem
    (wpAny_call_entry slot_list_setitem tl.typeIs entry_list_setitem ?_ (args_list_setitem _ _ _)))))
  show wpAny _ _ (Builtin.List.listSubscript? (.ref sl) >>= _) _ _ s
  refine wpAny_bind ?_
  unfold Builtin.List.listSubscript?
  refine wpAny_bind (wpAny_specialOf ts slice_no_index ?_)
  simp only [Option.isNone_none, if_true]
  refine wpAny_pure ?_
  show wpAny _ _ (typeOf (.ref sl) >>= _) _ _ s
  refine wpAny_bind (wpAny_typeOf ts ?_)
  first
    | rw [if_neg (by decide)]
    | refine PySem.W.KFB.if_not (by decide) ?_
  rw [listSliceParts_eq]
  refine wpAny_bind (wpAny_bind (wpAny_field o1 o3 (x := .none) rfl (wpAny_bind (wpAny_listPart .none ?_))))
  rw [if_neg (show ¬ ((rawPart none == rawInt 0) = true) from Bool.false_ne_true)]
  refine wpAny_bind (wpAny_field o1 o3 (x := vl) rfl (wpAny_bind (wpAny_listPart pl (wpAny_bind (wpAny_field o1 o3 (x := vu) rfl (wpAny_bind (wpAny_listPart pu (wpAny_pure ?_))))))))
  first
    | simp only [same, Bool.false_eq_true, if_false]
    | refine PySem.W.KFB.if_not same ?_
    | (dsimp only
       rw [if_neg (by rw [same]; exact Bool.false_ne_true)])
  refine wpAny_bind (m := Builtin.List.listAllItems (.ref b) "must assign iterable to extended slice") ?_
  unfold Builtin.List.listAllItems
  refine wpAny_bind (wpAny_typeOf tb.typeIs ?_)
  first
    | refine PySem.W.KFB.if_so (by decide) ?_
    | rw [if_pos (by decide)]
    | simp only [beq_self_eq_true, Bool.true_or, if_true]
  unfold Builtin.List.listItems
  refine wpAny_bind (wpAny_seqItems e2 rfl (wpAny_pure ?_))
  refine wpAny_bind (wpAny_bind (wpAny_seqItems e rfl (wpAny_pure ?_)))
  refine wpAny_bind (wpAny_of_eq ((sliceIndices_raw lo hi none items.size (by simp)).trans (congrArg (pure : Int × Int × Int → Sem (Int × Int × Int)) hb)) ?_)
  show wpAny _ _ (if ((1 : Int) == 1) = true then _ else _) _ _ s
  rw [if_pos (by decide)]
  refine wpAny_bind (wpAny_rule ?_)
  first
    | simp only [notLongL hsz, Bool.false_eq_true, if_false]
    | refine PySem.W.KFB.if_not (notLongL hsz) ?_
  first | refine wpAny_bind (wpAny_pure ?_) | skip
  show wpAny _ _ (updateSeq l (fun xs => xs.extract 0 ((a : Int)).toNat ++ new ++ xs.extract (max (a : Int) (c : Int)).toNat xs.size) >>= _) _ _ s
  rw [show (max (a : Int) (c : Int)).toNat = c by omega, Int.toNat_natCast]
  refine wpAny_bind (wpAny_updateSeq (hz := Nat.le_trans (Nat.le_add_right _ _) hsz) (_hz' := big) e rfl ?_)
  refine wpAny_bind (wpAny_letGo ?_)
  first
    | exact wpAny_bind (wpAny_pure (wpAny_pure ⟨.none, rfl, wpAny_pure h⟩))
    | exact wpAny_pure ⟨.none, rfl, wpAny_pure h⟩
end
/-- xs[lo:hi] = ys : the bounds are told -/
def rSetSl (o : V) (lo hi : Option Int) (v : V) (H : Hp) (G : Hp → Prop) : Prop := ∃ l b xs ys a c, o = .ref l ∧ v = .ref b ∧ H l = some (.lst xs) ∧ H b = some (.lst ys) ∧ l ≠ b ∧
  sliceBounds lo hi none xs.length = (((a : Nat) : Int), ((c : Nat) : Int), 1) ∧ a ≤ c ∧ c ≤ xs.length ∧ xs.length + ys.length ≤ sizeLine ∧ G (upd H l (.lst (xs.take a ++ ys ++ xs.drop c)))
def gSl (to : TE) (tl th : TO) : TG := fun v σ H Q => to σ H fun o H1 => tl σ H1 fun lo H2 => th σ H2 fun hi H3 => rSetSl o lo hi v H3 fun H4 => Q σ H4
section
variable {X : Cx}
theorem pg_slice {o : Expr} {lo hi : Option Expr} {to : TE} {tl th : TO} {pos p2 : Pos} (ho : PE X o to) (hl : PO X lo tl) (hu : PO X hi th)
    (ha : ∀ v, assign (.Subscript o (.Slice lo hi none p2) pos) X.env v = (do
      let ov ← holding [v] (eval o X.env)
      let iv ← holding [v, ov] (eval (.Slice lo hi none p2) X.env)
      standAt pos
      holding [v, ov, iv] (setItem ov iv v)
      release [iv, v, ov] []) := by intro _; rfl) : PG X (.Subscript o (.Slice lo hi none p2) pos) (gSl to tl th) := by
  refine ⟨fun pins s σ H v u Q I r h => ?_⟩
  rw [ha]
  refine wpAny_bind (wpAny_holding (thn (ho.run pins s σ H _ I h) fun ov s1 ⟨x, H1, I1, r1, q1⟩ => ?_))
  refine wpAny_bind (wpAny_holding (wpAny_Slice (thn (hl.run pins s1 σ H1 _ I1 q1) fun vl s2 ⟨l, H2, I2, pl, q2⟩ => thn (hu.run pins s2 σ H2 _ I2 q2) fun vu s3 ⟨u', H3, I3, pu, q3⟩ => ?_)))
  rw [evalPart_none]
  refine wpAny_pure ?_
  have I4 : Inv X pins σ H3 { s3 with heap := s3.heap.push { cls := .type "slice", data := .fields #[vl, vu, .none] } } := I3.kept (t' := s3.toks) fun b ob q => Heap.get?_push_of_some _ q
  obtain ⟨l', b, xs, ys, a, c, rfl, rfl, hH, hB, hne, hb, hac, hc, hz, q⟩ := q3
  cases r1
  cases r
  obtain ⟨z, its, n, rv, hlen, e⟩ := I4.lstM hH
  obtain ⟨z2, its2, n2, r2, hlen2, e2⟩ := I4.lstM hB
  refine wpAny_bind (wpAny_standAt (wpAny_bind (wpAny_holding ?_)))
  have sz : its.toArray.size = xs.length := by rw [List.size_toArray]; omega
  refine store_slice (a := a) (c := c) e e2 hne (Heap.IsSliceOf.new ..) pl pu (by rw [sz]; exact hb) hac (by rw [sz]; exact hc) (by rw [sz, List.size_toArray]; omega) ?_
  refine wpAny_release ⟨σ, _, ?_, q⟩
  refine I4.lset (its' := its.take a ++ its2 ++ its.drop c) (t' := s3.toks) hH e ?_ (Vals.append (Vals.append (rv.take _) r2) (rv.drop _)) ?_
  · exact splice_eq its its2 a c
  · rw [List.length_append, List.length_append, List.length_take, List.length_drop]
    omega
end
section
variable {L R R' : Lg} {σ : SS} {l b : Addr} {ns ms : List Int} {G : Hp → Prop}
theorem t_gSl {to : TE} {tl th : TO} {v : V} {Qn : SS → Hp → Prop} (k : Tr L fun H => to σ H fun o H1 => tl σ H1 fun lo H2 => th σ H2 fun hi H3 => rSetSl o lo hi v H3 fun H4 => Qn σ H4) : Tr L fun H => gSl to tl th v σ H Qn := k
theorem ne_led {H : Hp} {L R R' : Lg} {a b : Addr} {o o' : HO} (l : Led H L) (p : Pick a o L R) (q : Pick b o' R R') : a ≠ b := by
  intro e
  subst e
  have n := (List.nodup_cons.mp (l.pick p).nd).1
  exact n (List.mem_map.mpr ⟨_, q.mem, rfl⟩)
/-- xs[:] = ys -/
theorem t_setAll (hp : Pick l (.lst (ns.map V.int)) L R) (hq : Pick b (.lst (ms.map V.int)) R R') (hz : ns.length + ms.length ≤ sizeLine) (k : Tr ((l, .lst (ms.map V.int)) :: R) G) : Tr L fun H => rSetSl (.ref l) none none (.ref b) H G := fun H h =>
  ⟨l, b, _, _, 0, ns.length, rfl, rfl, h.get hp, (h.pick hp).tail.get hq, ne_led h hp hq, by rw [List.length_map]; exact bounds_open _, Nat.zero_le _, by rw [List.length_map]; exact Nat.le_refl _, by rw [List.length_map, List.length_map]; exact hz, by
    have e : (ns.map V.int).take 0 ++ ms.map V.int ++ (ns.map V.int).drop ns.length = ms.map V.int := by
      rw [List.take_zero, List.nil_append, List.drop_of_length_le (by rw [List.length_map]; exact Nat.le_refl _), List.append_nil]
    rw [e]
    exact k _ (h.pick hp).put⟩
/-- xs[i:] = ys -/
theorem t_setFrom {i : Int} (hp : Pick l (.lst (ns.map V.int)) L R) (hq : Pick b (.lst (ms.map V.int)) R R') (h0 : 0 ≤ i) (h1 : i ≤ ns.length) (hz : ns.length + ms.length ≤ sizeLine)
    (k : Tr ((l, .lst ((ns.take i.toNat ++ ms).map V.int)) :: R) G) : Tr L fun H => rSetSl (.ref l) (some i) none (.ref b) H G := fun H h =>
  ⟨l, b, _, _, i.toNat, ns.length, rfl, rfl, h.get hp, (h.pick hp).tail.get hq, ne_led h hp hq, by
      rw [List.length_map]
      have := bounds_from (a := i.toNat) (n := ns.length) (by omega)
      rw [Int.toNat_of_nonneg h0] at this ⊢
      exact this, by omega, by rw [List.length_map]; exact Nat.le_refl _, by rw [List.length_map, List.length_map]; exact hz, by
    have e : (ns.map V.int).take i.toNat ++ ms.map V.int ++ (ns.map V.int).drop ns.length = (ns.take i.toNat ++ ms).map V.int := by
      rw [List.drop_of_length_le (by rw [List.length_map]; exact Nat.le_refl _), List.append_nil, List.map_append, List.map_take]
    rw [e]
    exact k _ (h.pick hp).put⟩
end
end Hz

/-! Hz, part G: data with empty dicts; a ledger grown by what is new. -/
namespace Hz
open PySem PySem.Spec PyProof.Rows L2 RZ
/-! ### what repr reads: a dict may be no sys.modules -/
mutual
inductive Rq (h : Heap) : Value → PyData → Prop where
  | none : Rq h .none .none
  | bool (b : Bool) : Rq h (.bool b) (.bool b)
  | int (i : Int) (t : Nat) : Rq h (.int i t) (.int i)
  | str (x : Str) (t : Nat) : Rq h (.str x t) (.str x)
  | list {a : Addr} {o : Obj} {vs : Array Value} {n : Nat} {ds : List PyData} (g : h.get? a = some o) (c : o.cls = .type "list") (e : o.data = .seq vs n) (r : RqA h vs.toList ds) : Rq h (.ref a) (.list ds)
  | tuple {a : Addr} {o : Obj} {vs : Array Value} {n : Nat} {ds : List PyData} (g : h.get? a = some o) (c : o.cls = .type "tuple") (e : o.data = .seq vs n) (r : RqA h vs.toList ds) : Rq h (.ref a) (.tuple ds)
  | dict {a : Addr} {o : Obj} {es : Array DictEntry} {n : Nat} (g : h.get? a = some o) (c : o.cls = .type "dict") (e : o.data = .dict es n) (z : es.toList = []) (q : (a == sysModules) = false) : Rq h (.ref a) (.dict [])
inductive RqA (h : Heap) : List Value → List PyData → Prop where
  | nil : RqA h [] []
  | cons {v : Value} {vs : List Value} {d : PyData} {ds : List PyData} (r : Rq h v d) (q : RqA h vs ds) : RqA h (v :: vs) (d :: ds)
end
mutual
theorem Rq.reads {h : Heap} : ∀ {v : Value} {d : PyData}, Rq h v d → ∃ as, Reads h v d as
  | _, _, .none => ⟨_, .none⟩
  | _, _, .bool b => ⟨_, .bool b⟩
  | _, _, .int i t => ⟨_, .int i t⟩
  | _, _, .str x t => ⟨_, .str x t⟩
  | _, _, .list g c e r => let ⟨_, q⟩ := RqA.reads r; ⟨_, .list g c e q⟩
  | _, _, .tuple g c e r => let ⟨_, q⟩ := RqA.reads r; ⟨_, .tuple g c e q⟩
  | _, _, .dict (es := es) g c e z q => ⟨_, .dict (kvs := []) g c e (by rw [z]; exact .nil) (by rw [z]; exact .nil)⟩
theorem RqA.reads {h : Heap} : ∀ {vs : List Value} {ds : List PyData}, RqA h vs ds → ∃ as, ReadsAll h vs ds as
  | _, _, .nil => ⟨_, .nil⟩
  | _, _, .cons r q => let ⟨_, a⟩ := Rq.reads r; let ⟨_, b⟩ := RqA.reads q; ⟨_, .cons a b⟩
end
section
variable {P : Program} {w : World} {h : Heap}
theorem RqA.go {vs : List Value} {ds : List PyData} (F : ∀ v d, (v, d) ∈ vs.zip ds → d.showable = true → d.shown.length ≤ sizeLine → ∃ bs, ReadAtMost h d.depth bs ∧ ReprK P w bs h d.depth v d.shown) :
    RqA h vs ds → PyData.showableAll ds = true → (∀ t ∈ PyData.shownAll ds, t.length ≤ sizeLine) → ∃ bs, ReadAtMost h (PyData.depthAll ds) bs ∧ ReprAllK P w bs h (PyData.depthAll ds) vs (PyData.shownAll ds) := by
  induction vs generalizing ds with
  | nil =>
    intro r _ _
    cases r
    exact ⟨[], (fun _ z => nomatch z), by simp only [PyData.shownAll]; exact .nil⟩
  | cons v vs ih =>
    intro r hs hz
    cases r with
    | cons r q =>
      rename_i d ds
      simp only [PyData.showableAll, Bool.and_eq_true] at hs
      simp only [PyData.shownAll, List.mem_cons] at hz
      obtain ⟨b1, r1, k1⟩ := F v d (by simp) hs.1 (hz _ (.inl rfl))
      obtain ⟨b2, r2, k2⟩ := ih (fun v' d' m => F v' d' (by simp [m])) q hs.2 fun t ht => hz t (.inr ht)
      refine ⟨b1 ++ b2, fun b hb => ?_, ?_⟩
      · simp only [PyData.depthAll]
        rcases List.mem_append.mp hb with m | m
        · obtain ⟨d', as', x, y⟩ := r1 b m
          exact ⟨d', as', x, Nat.le_trans y (Nat.le_max_left _ _)⟩
        · obtain ⟨d', as', x, y⟩ := r2 b m
          exact ⟨d', as', x, Nat.le_trans y (Nat.le_max_right _ _)⟩
      · simp only [PyData.depthAll, PyData.shownAll]
        exact .cons ((k1.more fun b m => List.mem_append_left _ m).level_le (Nat.le_max_left _ _)) (k2.more_le (fun b m => List.mem_append_right _ m) (Nat.le_max_right _ _))
theorem rqa_at {vs : List Value} {ds : List PyData} {v : Value} {d : PyData} (r : RqA h vs ds) (m : (v, d) ∈ vs.zip ds) : Rq h v d := by
  induction vs generalizing ds with
  | nil => cases r; simp at m
  | cons x vs ih =>
    cases r with
    | cons r q =>
      simp only [List.zip_cons_cons, List.mem_cons, Prod.mk.injEq] at m
      rcases m with ⟨rfl, rfl⟩ | m
      · exact r
      · exact ih q m
theorem rqa_sz {vs : List Value} {ds : List PyData} {v : Value} {d : PyData} (m : (v, d) ∈ vs.zip ds) : sizeOf d < sizeOf ds := List.sizeOf_lt_of_mem (List.of_mem_zip m).2
theorem Rq.reprN : ∀ (N : Nat) {v : Value} {d : PyData}, sizeOf d ≤ N → Rq h v d → d.showable = true → d.shown.length ≤ sizeLine → ∃ bs, ReadAtMost h d.depth bs ∧ ReprK P w bs h d.depth v d.shown := by
  intro N
  induction N with
  | zero =>
    intro v d hN
    exfalso
    cases d <;> simp at hN <;> omega
  | succ N ihN =>
  intro v d hN r hs hz
  have r0 := r
  cases r with
  | none => exact ⟨[], (fun _ z => nomatch z), by simp only [PyData.shown]; exact .of_is ReprIs.none _ _ _⟩
  | bool b => exact ⟨[], (fun _ z => nomatch z), by simp only [PyData.shown]; exact .of_is (ReprIs.bool b) _ _ _⟩
  | int i t => exact ⟨[], (fun _ z => nomatch z), by simp only [PyData.shown]; exact .of_is (ReprIs.int t (by simpa [PyData.showable] using hs)) _ _ _⟩
  | str x t => exact ⟨[], (fun _ z => nomatch z), by simp only [PyData.shown]; exact .of_is (ReprIs.str x t (by simpa only [PyData.shown] using hz)) _ _ _⟩
  | list g c e r =>
    rename_i a o vs n ds
    obtain ⟨as, rr⟩ := r0.reads
    simp only [PyData.showable] at hs
    have hz2 : (listText (PyData.shownAll ds)).length ≤ sizeLine := by simpa only [PyData.shown] using hz
    obtain ⟨bs, hb, hk⟩ := RqA.go (P := P) (w := w) (fun v d m h1 h2 => ihN (by have := rqa_sz m; simp at hN; omega) (rqa_at r m) h1 h2) r hs fun t ht => Nat.le_trans (listText_mem_le ht) hz2
    have hna : a ∉ bs := not_mem_of_deeper rr (by simp only [PyData.depth]; omega) hb
    refine ⟨a :: bs, ReadAtMost.cons rr (by simp only [PyData.depth]; omega) hb, ?_⟩
    simp only [PyData.depth, PyData.shown]
    obtain ⟨l⟩ := vs
    cases l with
    | nil =>
      cases r
      simp only [PyData.shownAll, listText_nil]
      exact ReprK.listEmpty g c e
    | cons x l => exact ReprK.list g c e hna (by simpa using hk.length_eq) fun i y z => hk.item i y (by simpa using z)
  | tuple g c e r =>
    rename_i a o vs n ds
    obtain ⟨as, rr⟩ := r0.reads
    simp only [PyData.showable] at hs
    have hz2 : (tupleText (PyData.shownAll ds)).length ≤ sizeLine := by simpa only [PyData.shown] using hz
    obtain ⟨bs, hb, hk⟩ := RqA.go (P := P) (w := w) (fun v d m h1 h2 => ihN (by have := rqa_sz m; simp at hN; omega) (rqa_at r m) h1 h2) r hs fun t ht => Nat.le_trans (tupleText_mem_le ht) hz2
    have hna : a ∉ bs := not_mem_of_deeper rr (by simp only [PyData.depth]; omega) hb
    refine ⟨a :: bs, ReadAtMost.cons rr (by simp only [PyData.depth]; omega) hb, ?_⟩
    simp only [PyData.depth, PyData.shown]
    exact ReprK.tuple g c e hna hk
  | dict g c e z q =>
    rename_i a o es n
    obtain ⟨as, rr⟩ := r0.reads
    refine ⟨[a], ReadAtMost.cons rr (Nat.zero_le _) (bs := []) (n := 0) (fun _ z => nomatch z), ?_⟩
    simp only [PyData.depth, PyData.depthKv, PyData.shown, PyData.shownKv]
    exact ReprK.dict g c e q (by simp) (by rw [z]; exact .nil)
theorem Rq.repr {v : Value} {d : PyData} (r : Rq h v d) (hs : d.showable = true) (hz : d.shown.length ≤ sizeLine) : ∃ bs, ReadAtMost h d.depth bs ∧ ReprK P w bs h d.depth v d.shown := Rq.reprN _ (Nat.le_refl _) r hs hz
theorem Rq.shows {a : Addr} {d : PyData} (r : Rq h (.ref a) d) (hs : d.showable = true) (hz : d.shown.length ≤ sizeLine) : ∃ T idr, ShowsBy P w h a d T idr := by
  have r0 := r
  cases r with
  | list g c e r =>
    rename_i o vs n ds
    obtain ⟨as, rr⟩ := r0.reads
    simp only [PyData.showable] at hs
    have hz2 : (listText (PyData.shownAll ds)).length ≤ sizeLine := by simpa only [PyData.shown] using hz
    obtain ⟨bs, hb, hk⟩ := RqA.go (P := P) (w := w) (fun v d m h1 h2 => Rq.repr (rqa_at r m) h1 h2) r hs fun t ht => Nat.le_trans (listText_mem_le ht) hz2
    have hna : a ∉ bs := not_mem_of_deeper rr (by simp only [PyData.depth]; omega) hb
    refine ⟨"list", "list.__repr__", F.slot_list_repr.toG, F.slot_list_str, F.slot_list_format, fun s hk0 => ⟨o, hk0 _ _ g, c⟩, fun A E s Q hg hu hk0 hQ => ?_⟩
    simp only [PyData.depth] at hu
    simp only [PyData.shown] at hQ
    obtain ⟨l⟩ := vs
    cases l with
    | nil =>
      cases r
      simp only [PyData.shownAll, listText_nil] at hQ
      exact call_list_repr_empty ⟨o, hk0 _ _ g, c⟩ (hk0 _ _ g) e (hQ s.heap _ _ fun _ _ z => z)
    | cons x l => exact call_list_reprK g c e hna (by simpa using hk.length_eq) (fun i y z => hk.item i y (by simpa using z)) hg (fun b _ => Clear.nil b) hu hk0 hQ hz2
  | tuple g c e r =>
    rename_i o vs n ds
    obtain ⟨as, rr⟩ := r0.reads
    simp only [PyData.showable] at hs
    have hz2 : (tupleText (PyData.shownAll ds)).length ≤ sizeLine := by simpa only [PyData.shown] using hz
    obtain ⟨bs, hb, hk⟩ := RqA.go (P := P) (w := w) (fun v d m h1 h2 => Rq.repr (rqa_at r m) h1 h2) r hs fun t ht => Nat.le_trans (tupleText_mem_le ht) hz2
    have hna : a ∉ bs := not_mem_of_deeper rr (by simp only [PyData.depth]; omega) hb
    refine ⟨"tuple", "tuple.__repr__", F.slot_tuple_repr, F.slot_tuple_str, F.slot_tuple_format, fun s hk0 => ⟨o, hk0 _ _ g, c⟩, fun A E s Q hg hu hk0 hQ => ?_⟩
    simp only [PyData.depth] at hu
    simp only [PyData.shown] at hQ
    exact call_tuple_reprK g c e hna hk hg (fun b _ => Clear.nil b) hu hk0 hQ hz2
  | dict g c e z q =>
    rename_i o es n
    refine ⟨"dict", "dict.__repr__", F.slot_dict_repr, F.slot_dict_str, F.slot_dict_format, fun s hk0 => ⟨o, hk0 _ _ g, c⟩, fun A E s Q hg hu hk0 hQ => ?_⟩
    simp only [PyData.depth, PyData.depthKv] at hu
    simp only [PyData.shown, PyData.shownKv] at hQ hz
    exact call_dict_reprK (as := []) g c e q (by simp) (ps := []) (by rw [z]; exact .nil) hg (fun b _ => Clear.nil b) hu hk0 hQ hz
end
/-! ### data by the ledger, empty dicts among them -/
mutual
inductive Dv (L : Lg) : V → PyData → Prop where
  | non : Dv L .non .none
  | bl (b : Bool) : Dv L (.bl b) (.bool b)
  | int (i : Int) : Dv L (.int i) (.int i)
  | str (z : Str) : Dv L (.str z) (.str z)
  | lst {a : Addr} {xs : List V} {ds : List PyData} (m : (a, .lst xs) ∈ L) (r : DvAll L xs ds) : Dv L (.ref a) (.list ds)
  | tup {a : Addr} {xs : List V} {ds : List PyData} (m : (a, .tup xs) ∈ L) (r : DvAll L xs ds) : Dv L (.ref a) (.tuple ds)
  | dct {a : Addr} (m : (a, .dK []) ∈ L) : Dv L (.ref a) (.dict [])
inductive DvAll (L : Lg) : List V → List PyData → Prop where
  | nil : DvAll L [] []
  | cons {x : V} {xs : List V} {d : PyData} {ds : List PyData} (h : Dv L x d) (r : DvAll L xs ds) : DvAll L (x :: xs) (d :: ds)
end
mutual
theorem Dv.mono {L M : Lg} (s : ∀ p ∈ L, p ∈ M) : ∀ {x : V} {d : PyData}, Dv L x d → Dv M x d
  | _, _, .non => .non
  | _, _, .bl b => .bl b
  | _, _, .int i => .int i
  | _, _, .str z => .str z
  | _, _, .lst m h => .lst (s _ m) (DvAll.mono s h)
  | _, _, .tup m h => .tup (s _ m) (DvAll.mono s h)
  | _, _, .dct m => .dct (s _ m)
theorem DvAll.mono {L M : Lg} (s : ∀ p ∈ L, p ∈ M) : ∀ {xs : List V} {ds : List PyData}, DvAll L xs ds → DvAll M xs ds
  | _, _, .nil => .nil
  | _, _, .cons h r => .cons (Dv.mono s h) (DvAll.mono s r)
end
mutual
theorem Dt.dv {L : Lg} : ∀ {x : V} {d : PyData}, Dt L x d → Dv L x d
  | _, _, .non => .non
  | _, _, .bl b => .bl b
  | _, _, .int i => .int i
  | _, _, .str z => .str z
  | _, _, .lst m h => .lst m (DtAll.dv h)
  | _, _, .tup m h => .tup m (DtAll.dv h)
theorem DtAll.dv {L : Lg} : ∀ {xs : List V} {ds : List PyData}, DtAll L xs ds → DvAll L xs ds
  | _, _, .nil => .nil
  | _, _, .cons h r => .cons (Dt.dv h) (DtAll.dv r)
end
theorem DvAll.len {L : Lg} : ∀ {xs : List V} {ds : List PyData}, DvAll L xs ds → xs.length = ds.length
  | _, _, .nil => rfl
  | _, _, .cons _ r => by rw [List.length_cons, List.length_cons, r.len]
theorem DvAll.get {L : Lg} : ∀ {xs : List V} {ds : List PyData} {i : Nat} {x : V}, DvAll L xs ds → xs[i]? = some x → ∃ d, ds[i]? = some d ∧ Dv L x d
  | _, _, 0, _, .cons h _, e => by cases e; exact ⟨_, rfl, h⟩
  | _, _, i + 1, _, .cons _ r, e => r.get (i := i) (by simpa using e)
theorem DvAll.ints {L : Lg} (ns : List Int) : DvAll L (ns.map V.int) (ns.map PyData.int) := (DtAll.ints ns).dv
theorem DvAll.app {L : Lg} : ∀ {xs ys : List V} {ds es : List PyData}, DvAll L xs ds → DvAll L ys es → DvAll L (xs ++ ys) (ds ++ es)
  | _, _, _, _, .nil, h => h
  | _, _, _, _, .cons h r, h2 => .cons h (r.app h2)
theorem Dv.ints {L : Lg} {a : Addr} {ns : List Int} (h : (a, .lst (ns.map V.int)) ∈ L) : Dv L (.ref a) (.list (ns.map PyData.int)) := .lst h (.ints ns)
theorem Dv.intsT {L : Lg} {a : Addr} {ns : List Int} (h : (a, .tup (ns.map V.int)) ∈ L) : Dv L (.ref a) (.tuple (ns.map PyData.int)) := .tup h (.ints ns)
theorem Dv.ty {L : Lg} {x : V} {d : PyData} (h : Dv L x d) : HasTy L x (dtName d) := by
  cases h with
  | non => exact .non
  | bl b => exact .bl b
  | int i => exact .int i
  | str z => exact .str z
  | lst m _ => exact .lst m
  | tup m _ => exact .tup m
  | dct m => exact .dct m
section
variable {X : Cx} {pins : List (Addr × Obj)} {σ : L2.St} {H : Hp} {s : Shared} {L : Lg}
mutual
theorem Dv.rq (I : Inv X pins σ H s) (l : Led H L) : ∀ {x : V} {d : PyData} {u : Value}, Dv L x d → RelV x u → Rq s.heap u d
  | _, _, _, .non, r => by cases r; exact .none
  | _, _, _, .bl b, r => by cases r; exact .bool b
  | _, _, _, .int i, r => by obtain ⟨t, rfl⟩ := r; exact .int i t
  | _, _, _, .str z, r => by obtain ⟨t, rfl⟩ := r; exact .str z t
  | _, _, _, .lst m h, r => by
    cases r
    obtain ⟨its, rv, ⟨o, n, ho, hc, _, hd⟩, _⟩ := I.list (.inl (.inl (l.has _ m)))
    exact .list ho hc hd (by rw [List.toList_toArray]; exact DvAll.rq I l h rv)
  | _, _, _, .tup m h, r => by
    cases r
    obtain ⟨its, rv, ⟨o, ho, hc, n, hd⟩, _⟩ := I.tuple (.inl (.inl (l.has _ m)))
    exact .tuple ho hc hd (by rw [List.toList_toArray]; exact DvAll.rq I l h rv)
  | _, _, _, .dct m, r => by
    cases r
    obtain ⟨_, hq, vs, rel, o, es, ep, e, x, hd, _, pr, _⟩ := I.hok _ _ (l.has _ m)
    cases rel
    refine .dict e x.1 hd ?_ hq
    revert pr
    generalize es.toList = l
    intro pr
    cases pr; rfl
theorem DvAll.rq (I : Inv X pins σ H s) (l : Led H L) : ∀ {xs : List V} {ds : List PyData} {us : List Value}, DvAll L xs ds → Vals xs us → RqA s.heap us ds
  | _, _, _, .nil, r => by cases r; exact .nil
  | _, _, _, .cons h q, r => by
    cases r with
    | cons r1 r2 => exact .cons (Dv.rq I l h r1) (DvAll.rq I l q r2)
end
end
end Hz
namespace Hz
open PySem PySem.Spec PyProof.Rows L2 RZ
/-! ### what can be shown -/
/-- d's text has at most n signs, it is nested at most k deep -/
def Sz (n k : Nat) (d : PyData) : Prop := d.showable = true ∧ d.depth ≤ k ∧ d.shown.length ≤ n
theorem Sz.le {n k m j : Nat} {d : PyData} (h : Sz n k d) (e1 : n ≤ m) (e2 : k ≤ j) : Sz m j d := ⟨h.1, Nat.le_trans h.2.1 e2, Nat.le_trans h.2.2 e1⟩
theorem Sz.none : Sz 4 0 .none := ⟨by simp only [PyData.showable], by simp only [PyData.depth]; omega, by simp only [PyData.shown]; decide⟩
theorem Sz.bool (b : Bool) : Sz 5 0 (.bool b) := ⟨by simp only [PyData.showable], by simp only [PyData.depth]; omega, by cases b <;> simp only [PyData.shown] <;> decide⟩
theorem Sz.int {i : Int} (N : Nat) (h0 : 0 < N) (h1 : N ≤ 1000) (h : i.natAbs < 2 ^ N) : Sz (N + 1) 0 (.int i) := by
  have z := PySem.Flt.log2_lt_of h0 h
  refine ⟨by simp only [PyData.showable, decide_eq_true_eq]; omega, by simp only [PyData.depth]; omega, ?_⟩
  simp only [PyData.shown]
  rw [PySem.ofString_length]
  exact int_text_length_le h0 z
theorem Sz.str {z : Str} (h : ∀ c ∈ z.cps.toList, c < 16 ^ 8) : Sz (10 * z.cps.size + 8) 0 (.str z) := by
  refine ⟨by simp only [PyData.showable], by simp only [PyData.depth]; omega, ?_⟩
  have := PyData.shown_le 8 (by decide) (.str z) (by simp only [PyData.leavesShort, List.all_eq_true, decide_eq_true_eq]; exact h)
  simpa only [PyData.weight] using this
theorem Sz.dct : Sz 2 1 (.dict []) := ⟨by simp only [PyData.showable, PyData.showableKv], by simp only [PyData.depth, PyData.depthKv]; omega, by simp only [PyData.shown, PyData.shownKv]; decide⟩
theorem sz_show {n k : Nat} : ∀ {ds : List PyData}, (∀ d ∈ ds, Sz n k d) → PyData.showableAll ds = true
  | [], _ => by simp only [PyData.showableAll]
  | d :: r, h => by simp only [PyData.showableAll, (h d (.head _)).1, sz_show fun e m => h e (.tail _ m), Bool.and_self]
theorem sz_deep {n k : Nat} : ∀ {ds : List PyData}, (∀ d ∈ ds, Sz n k d) → PyData.depthAll ds ≤ k
  | [], _ => by simp only [PyData.depthAll]; omega
  | d :: r, h => by
    have h1 := (h d (.head _)).2.1
    have h2 := sz_deep (ds := r) fun e m => h e (.tail _ m)
    simp only [PyData.depthAll]; omega
theorem sz_sum {n k : Nat} : ∀ {ds : List PyData}, (∀ d ∈ ds, Sz n k d) → ((PyData.shownAll ds).map (·.length)).sum ≤ ds.length * n ∧ (PyData.shownAll ds).length = ds.length
  | [], _ => by simp [PyData.shownAll]
  | d :: r, h => by
    have h1 := (h d (.head _)).2.2
    obtain ⟨h2, h3⟩ := sz_sum (ds := r) fun e m => h e (.tail _ m)
    simp only [PyData.shownAll, List.map_cons, List.sum_cons, List.length_cons, h3, Nat.add_mul, Nat.one_mul]
    exact ⟨by omega, trivial⟩
theorem Sz.list {n k : Nat} {ds : List PyData} (m : Nat) (h : ∀ d ∈ ds, Sz n k d) (hl : ds.length ≤ m) : Sz (m * n + 2 * m + 3) (k + 1) (.list ds) := by
  obtain ⟨h1, h2⟩ := sz_sum h
  refine ⟨by simp only [PyData.showable]; exact sz_show h, by have := sz_deep h; simp only [PyData.depth]; omega, ?_⟩
  have h3 := listText_len_le (PyData.shownAll ds)
  have h4 : ds.length * n ≤ m * n := Nat.mul_le_mul_right _ hl
  simp only [PyData.shown]
  omega
theorem Sz.tuple {n k : Nat} {ds : List PyData} (m : Nat) (h : ∀ d ∈ ds, Sz n k d) (hl : ds.length ≤ m) : Sz (m * n + 2 * m + 3) (k + 1) (.tuple ds) := by
  obtain ⟨h1, h2⟩ := sz_sum h
  refine ⟨by simp only [PyData.showable]; exact sz_show h, by have := sz_deep h; simp only [PyData.depth]; omega, ?_⟩
  have h3 := tupleText_len_le (PyData.shownAll ds)
  have h4 : ds.length * n ≤ m * n := Nat.mul_le_mul_right _ hl
  simp only [PyData.shown]
  omega
theorem Sz.ints {ns : List Int} (N m : Nat) (h0 : 0 < N) (h1 : N ≤ 1000) (h : ∀ n ∈ ns, n.natAbs < 2 ^ N) (hl : ns.length ≤ m) : Sz (m * (N + 1) + 2 * m + 3) 1 (.list (ns.map PyData.int)) :=
  Sz.list m (fun d hd => by obtain ⟨n, hn, rfl⟩ := List.mem_map.mp hd; exact Sz.int N h0 h1 (h n hn)) (by rw [List.length_map]; exact hl)
theorem Sz.intsT {ns : List Int} (N m : Nat) (h0 : 0 < N) (h1 : N ≤ 1000) (h : ∀ n ∈ ns, n.natAbs < 2 ^ N) (hl : ns.length ≤ m) : Sz (m * (N + 1) + 2 * m + 3) 1 (.tuple (ns.map PyData.int)) :=
  Sz.tuple m (fun d hd => by obtain ⟨n, hn, rfl⟩ := List.mem_map.mp hd; exact Sz.int N h0 h1 (h n hn)) (by rw [List.length_map]; exact hl)
/-! ### repr of data -/
section
variable {X : Cx}
/-- repr(x), x data by any ledger that the heap holds -/
def rReprV : List V → Hp → VK → Prop := fun xs H Q => ∃ x d L, xs = [x] ∧ Led H L ∧ Dv L x d ∧ d.showable = true ∧ d.depth < 60 ∧ d.shown.length ≤ sizeLine ∧ Q (.str d.shown) H
theorem call_reprV (gd : X.A.guards = some []) (hu : X.A.units + 64 < cLine) : CallR X (.builtin "repr") rReprV := by
  intro pins s σ H xs us Q I r h
  obtain ⟨x, d, L, rfl, l, hd, hs, hk, hz, q⟩ := h
  obtain ⟨u, rfl, ru⟩ := vals1 r
  have rq := hd.rq I l ru
  have deep : ∀ {a : Addr}, Rq s.heap (.ref a) d → wpAny (model X.prog X.w) X.A (call (.builtin "repr") [.ref a]) (EP X pins σ Q) X.xe s := fun {a} rq => by
    obtain ⟨T, idr, S⟩ := rq.shows (P := X.prog) (w := X.w) hs hz
    exact call_repr_slot (by omega) (S.typeIs s fun _ _ z => z) S.slotRepr (S.call X.A.in1 X.xe s _ gd (by show X.A.units + 1 + d.depth < cLine; omega) (fun _ _ z => z) fun h' u tk hk => ⟨_, _, rfl, ⟨.str _, H, I.kept hk, ⟨_, rfl⟩, q⟩⟩)
  cases hd with
  | non =>
    cases (show u = Value.none from ru)
    exact PySem.P.repr_of_none ⟨.str _, H, I.tok _, ⟨_, rfl⟩, by simpa only [PyData.shown] using q⟩
  | bl b =>
    cases (show u = Value.bool b from ru)
    exact PySem.P.repr_of_bool ⟨.str _, H, I.tok _, ⟨_, rfl⟩, by simpa only [PyData.shown] using q⟩
  | int i =>
    obtain ⟨t, rfl⟩ := ru
    exact PySem.P.repr_of_int (by simpa [PyData.showable] using hs) ⟨.str _, H, I.tok _, ⟨_, rfl⟩, by simpa only [PyData.shown] using q⟩
  | str y =>
    obtain ⟨t, rfl⟩ := ru
    exact PySem.P.repr_of_str ⟨.str _, H, I.tok _, ⟨_, rfl⟩, by simpa only [PyData.shown] using q⟩ (by simpa only [PyData.shown] using hz)
  | lst _ _ =>
    cases (show u = Value.ref _ from ru)
    exact deep rq
  | tup _ _ =>
    cases (show u = Value.ref _ from ru)
    exact deep rq
  | dct _ =>
    cases (show u = Value.ref _ from ru)
    exact deep rq
end
section
variable {L M R : Lg} {Q : VK} {x : V} {d : PyData} {a : Addr}
theorem t_reprV (hd : Dv L x d) (n k : Nat) (hs : Sz n k d) (hn : n ≤ 16777216) (hk : k < 60) (q : Tr L fun H => Q (.str d.shown) H) : Tr L fun H => rReprV [x] H Q :=
  fun H l => ⟨x, d, L, rfl, l, hd, hs.1, Nat.lt_of_le_of_lt hs.2.1 hk, by rw [sizeLine_eq]; exact Nat.le_trans hs.2.2 hn, q H l⟩
theorem t_reprVI {ns : List Int} (hm : (a, .lst (ns.map V.int)) ∈ L) (h : ∀ n ∈ ns, n.natAbs < 2 ^ 1000) (hl : ns.length ≤ 16000) (q : Tr L fun H => Q (.str (reprI ns)) H) : Tr L fun H => rReprV [.ref a] H Q :=
  t_reprV (Dv.ints hm) _ _ (Sz.ints 1000 16000 (by decide) (by decide) h hl) (by decide) (by decide) q
/-! ### what is new stands ahead of what was -/
theorem Pick.app {o : HO} : ∀ (N : Lg) {L R : Lg}, Pick a o L R → Pick a o (N ++ L) (N ++ R)
  | [], _, _, h => h
  | _ :: N, _, _, h => .tail (Pick.app N h)
theorem Sub.app : ∀ (N : Lg) {L M : Lg}, Sub L M → Sub (N ++ L) M
  | [], _, _, h => h
  | _ :: N, _, _, h => .drop (Sub.app N h)
/-- M is N ahead of L -/
inductive Pre : Lg → Lg → Lg → Prop where
  | nil {L : Lg} : Pre L L []
  | cons {x : Addr × HO} {M L N : Lg} : Pre M L N → Pre (x :: M) L (x :: N)
  | app (K : Lg) {M L N : Lg} : Pre M L N → Pre (K ++ M) L (K ++ N)
theorem Pre.eq {M L N : Lg} (h : Pre M L N) : M = N ++ L := by
  induction h with
  | nil => rfl
  | cons _ ih => rw [ih]; rfl
  | app K _ ih => rw [ih, List.append_assoc]
theorem t_pre {o : HO} {N : Lg} {G : Hp → Prop} (hp : Pick a o M R) (h : Pre R L N) (k : Tr ((a, o) :: (N ++ L)) G) : Tr M G := by
  rw [← h.eq] at k
  exact Tr.pick hp k
theorem t_preV {o : HO} {N : Lg} {G : Hp → Prop} (S : PyData → Prop) (k : ∀ d, Dv (N ++ L) x d → S d → Tr ((a, o) :: (N ++ L)) G) (hp : Pick a o M R) (h : Pre R L N) (key : ∃ d, Dv R x d ∧ S d) : Tr M G := by
  obtain ⟨d, h1, h2⟩ := key
  rw [h.eq] at h1
  exact t_pre hp h (k d h1 h2)
theorem t_pre0 {N : Lg} {G : Hp → Prop} (h : Pre M L N) (k : Tr (N ++ L) G) : Tr M G := by
  rw [h.eq]; exact k
end
end Hz
namespace Hz
open PySem PySem.Spec PyProof.Rows L2 RZ
section
variable {L : Lg} {σ : SS} {Q : VK}
/-- {} -/
theorem t_dnewK (k : ∀ p, Tr ((p, .dK []) :: L) fun H => Q (.ref p) H) : Tr L fun H => tDNewK σ H Q := fun H l p hp => k p _ (l.new hp)
end
end Hz
namespace Hz
open PySem PySem.Spec PyProof.Rows L2 RZ
/-- ways come together: what is known then bears a name -/
theorem t_join {α : Type} {L : Lg} {G : Hp → Prop} {T : Hp → Prop} (X : α → Lg) (J : α → Prop) (k : (∀ y M, J y → Sub M (X y) → Tr M T) → Tr L G) (main : ∀ y, J y → Tr (X y) T) : Tr L G := k fun y M h s => (main y h).sub s
end Hz
namespace Hz
open PySem PySem.Spec PyProof.Rows L2 RZ
section
variable {L R R' : Lg} {Q : VK} {K : PySem.W.Frag} {a b p : Addr} {xs ys : List V}
theorem t_extend (hp : Pick a (.lst xs) L R) (hq : Pick b (.lst ys) L R') (hz : xs.length + ys.length ≤ sizeLine) (k : Tr ((a, .lst (xs ++ ys)) :: R) fun H => Q .non H) : Tr L fun H => rExtend (.ref a) [.ref b] H Q :=
  fun H l => ⟨a, b, xs, ys, rfl, rfl, l.get hp, l.get hq, hz, k _ (l.pick hp).put⟩
/-- xs[i] = v -/
theorem t_setV {i : Int} {v : V} {G : Hp → Prop} (hp : Pick p (.lst xs) L R) (h0 : 0 ≤ i) (h1 : i < xs.length) (k : Tr ((p, .lst (xs.set i.toNat v)) :: R) G) : Tr L fun H => rSetL (.ref p) (.int i) v H G :=
  t_setL (j := i.toNat) hp (by unfold ixN; first | rfl | (split <;> simp_all <;> omega)) k
/-! ### lists of tuples of two ints -/
def prD (p : Int × Int) : PyData := .tuple [.int p.1, .int p.2]
def prsD (ps : List (Int × Int)) : PyData := .list (ps.map prD)
/-- xs are tuples of two ints -/
def Prs (L : Lg) (xs : List V) (ps : List (Int × Int)) : Prop := DtAll L xs (ps.map prD)
theorem Dt.inv {L : Lg} {x : V} {p : Int × Int} (h : Dt L x (prD p)) : ∃ T, x = .ref T ∧ (T, .tup [.int p.1, .int p.2]) ∈ L := by
  unfold prD at h
  cases h with
  | tup m r =>
    cases r with
    | cons h1 r =>
      cases h1
      cases r with
      | cons h2 r =>
        cases h2
        cases r
        exact ⟨_, rfl, m⟩
theorem Dt.pr {L : Lg} {T : Addr} {s l : Int} (m : (T, .tup [.int s, .int l]) ∈ L) : Dt L (.ref T) (prD (s, l)) := .tup m (.cons (.int _) (.cons (.int _) .nil))
theorem Prs.len {L : Lg} {xs : List V} {ps : List (Int × Int)} (h : Prs L xs ps) : xs.length = ps.length := by
  have := DtAll.len h
  rwa [List.length_map] at this
theorem Prs.at {L : Lg} {xs : List V} {ps : List (Int × Int)} (h : Prs L xs ps) {i : Nat} {v : V} (e : xs[i]? = some v) : ∃ T p, v = .ref T ∧ ps[i]? = some p ∧ (T, .tup [.int p.1, .int p.2]) ∈ L := by
  obtain ⟨d, e1, hd⟩ := DtAll.get h e
  rw [List.getElem?_map] at e1
  cases e2 : ps[i]? with
  | none => rw [e2] at e1; cases e1
  | some p =>
    rw [e2] at e1
    cases e1
    obtain ⟨T, rfl, m⟩ := hd.inv
    exact ⟨T, p, rfl, rfl, m⟩
theorem Prs.mono {L M : Lg} (s : ∀ p ∈ L, p ∈ M) {xs : List V} {ps : List (Int × Int)} (h : Prs L xs ps) : Prs M xs ps := DtAll.mono s h
theorem DtAll.app {L : Lg} : ∀ {xs ys : List V} {ds es : List PyData}, DtAll L xs ds → DtAll L ys es → DtAll L (xs ++ ys) (ds ++ es)
  | _, _, _, _, .nil, h => h
  | _, _, _, _, .cons h r, h2 => .cons h (r.app h2)
theorem DtAll.set {L : Lg} : ∀ {xs : List V} {ds : List PyData} {x : V} {d : PyData} (i : Nat), DtAll L xs ds → Dt L x d → DtAll L (xs.set i x) (ds.set i d)
  | _, _, _, _, _, .nil, _ => .nil
  | _, _, _, _, 0, .cons _ r, h => .cons h r
  | _, _, _, _, i + 1, .cons h0 r, h => .cons h0 (r.set i h)
theorem Prs.app {L : Lg} {xs ys : List V} {ps qs : List (Int × Int)} (h : Prs L xs ps) (h2 : Prs L ys qs) : Prs L (xs ++ ys) (ps ++ qs) := by
  unfold Prs
  rw [List.map_append]
  exact DtAll.app h h2
theorem Prs.set {L : Lg} {xs : List V} {ps : List (Int × Int)} {x : V} {p : Int × Int} (i : Nat) (h : Prs L xs ps) (h2 : Dt L x (prD p)) : Prs L (xs.set i x) (ps.set i p) := by
  unfold Prs
  rw [List.map_set]
  exact DtAll.set i h h2
theorem Prs.one {L : Lg} {T : Addr} {s l : Int} (m : (T, .tup [.int s, .int l]) ∈ L) : Prs L [.ref T] [(s, l)] := .cons (.pr m) .nil
theorem Prs.snoc {L : Lg} {xs : List V} {ps : List (Int × Int)} {T : Addr} {s l : Int} (h : Prs L xs ps) (m : (T, .tup [.int s, .int l]) ∈ L) : Prs L (xs ++ [.ref T]) (ps ++ [(s, l)]) := h.app (.one m)
theorem Prs.dt {L : Lg} {xs : List V} {ps : List (Int × Int)} (h : Prs L xs ps) (m : (a, .lst xs) ∈ L) : Dt L (.ref a) (prsD ps) := .lst m h
/-- numbers of at most 110 bits -/
def Sm (ps : List (Int × Int)) : Prop := ∀ p ∈ ps, 0 ≤ p.1 ∧ p.1 < 2 ^ 110 ∧ 0 ≤ p.2 ∧ p.2 < 2 ^ 110
theorem Sz.pr {p : Int × Int} (h : 0 ≤ p.1 ∧ p.1 < 2 ^ 110 ∧ 0 ≤ p.2 ∧ p.2 < 2 ^ 110) : Sz 300 1 (prD p) :=
  (Sz.tuple (n := 111) (k := 0) 2 (fun d hd => by
    simp only [List.mem_cons, List.not_mem_nil, or_false] at hd
    rcases hd with rfl | rfl
    · exact Sz.int 110 (by decide) (by decide) (by omega)
    · exact Sz.int 110 (by decide) (by decide) (by omega)) (by simp)).le (by decide) (by decide)
theorem Sz.prs {ps : List (Int × Int)} (m : Nat) (h : Sm ps) (hl : ps.length ≤ m) : Sz (m * 300 + 2 * m + 3) 2 (prsD ps) :=
  Sz.list m (fun d hd => by obtain ⟨p, hp, rfl⟩ := List.mem_map.mp hd; exact Sz.pr (h p hp)) (by rw [List.length_map]; exact hl)
theorem eqvAll_prs : ∀ ps qs : List (Int × Int), PyData.eqvAll (ps.map prD) (qs.map prD) = decide (ps = qs)
  | [], [] => by simp [PyData.eqvAll]
  | [], _ :: _ => by simp [PyData.eqvAll]
  | _ :: _, [] => by simp [PyData.eqvAll]
  | (s, l) :: r, (s', l') :: r' => by
    simp only [List.map_cons, PyData.eqvAll, prD, PyData.eqv, eqvAll_prs r r', List.cons.injEq, Prod.mk.injEq, Bool.decide_and, Bool.and_true]
    rfl
theorem eqv_prs (ps qs : List (Int × Int)) : PyData.eqv (prsD ps) (prsD qs) = decide (ps = qs) := by
  simp only [prsD, PyData.eqv, eqvAll_prs]
theorem shaped_prs (ps : List (Int × Int)) : SeqAt.shaped (prsD ps) = true := by
  have c : ∀ ps : List (Int × Int), PyData.canLayAll0 (ps.map prD) = true := by
    intro ps
    induction ps with
    | nil => simp [PyData.canLayAll0]
    | cons n r ih => simp [PyData.canLayAll0, PyData.canLay0, prD, ih]
  have d : ∀ ps : List (Int × Int), PyData.depthAll (ps.map prD) ≤ 1 := by
    intro ps
    induction ps with
    | nil => simp [PyData.depthAll]
    | cons n r ih =>
      simp only [List.map_cons, PyData.depthAll, prD, PyData.depth]
      exact Nat.max_le.mpr ⟨by decide, ih⟩
  have := d ps
  unfold SeqAt.shaped prsD
  simp [PyData.canLay0, c, PyData.depth]
  omega
theorem t_eqPrs {ps qs : List (Int × Int)} (ha : Dt L (.ref a) (prsD ps)) (hb : Dt L (.ref b) (prsD qs)) (k : Tr L fun H => Q (.bl (decide (ps = qs))) H) : Tr L fun H => rEqD K (.ref a) (.ref b) H Q :=
  t_eqD ha.dpl hb.dpl (shaped_prs ps) (shaped_prs qs) (by rw [eqv_prs]; exact k)
theorem t_nePrs {ps qs : List (Int × Int)} (ha : Dt L (.ref a) (prsD ps)) (hb : Dt L (.ref b) (prsD qs)) (k : Tr L fun H => Q (.bl (!decide (ps = qs))) H) : Tr L fun H => rNeD K (.ref a) (.ref b) H Q :=
  t_neD ha.dpl hb.dpl (shaped_prs ps) (shaped_prs qs) (by rw [eqv_prs]; exact k)
end
end Hz
namespace Hz
open PySem PySem.Spec PyProof.Rows L2 RZ
/-- ways come together: two ints, o otherwise known -/
theorem t_joinP {L : Lg} {G : Hp → Prop} {T : Int → Int → Hp → Prop} (X : Int → Int → HO → Lg) (J : Int → Int → HO → Prop) (k : (∀ i j o M, J i j o → Sub M (X i j o) → Tr M (T i j)) → Tr L G) (main : ∀ i j o, J i j o → Tr (X i j o) (T i j)) : Tr L G := k fun i j o M h s => (main i j o h).sub s
end Hz
namespace Hz
open PySem PySem.Spec PyProof.Rows L2 RZ
/-- ns[:i], i may lie behind the end -/
theorem cutI_upto {ns : List Int} {i : Int} (h0 : 0 ≤ i) : cutI ns none (some i) = ns.take i.toNat := by
  unfold cutI
  have e : HT.sIx ns.length ns.length (some i) = min i.toNat ns.length := by
    show (if i < 0 then _ else min i.toNat ns.length) = min i.toNat ns.length
    rw [if_neg (by omega)]
  rw [e]
  show (ns.drop 0).take (min i.toNat ns.length - 0) = ns.take i.toNat
  rw [List.drop_zero, Nat.sub_zero, ← List.take_take, List.take_length]
end Hz
namespace Hz
open PySem PySem.Spec PyProof.Rows L2 RZ
/-- part of what is known bears a name from here on -/
theorem t_gen {α : Type} {L : Lg} {G : Hp → Prop} (X : α → Lg) (J : α → Prop) (y : α) (hJ : J y) (s : Sub L (X y)) (main : ∀ y, J y → Tr (X y) G) : Tr L G := (main y hJ).sub s
theorem fl_nil {α : Type} {b : Nat → Bool} {o : Nat → α} {n : Nat} : fl b o n = [] ↔ ∀ i, i < n → b i = false := by
  unfold fl
  rw [List.map_eq_nil_iff, List.filter_eq_nil_iff]
  constructor
  · intro h i hi
    exact Bool.eq_false_iff.mpr (h i (List.mem_range.mpr hi))
  · intro h i hi
    rw [h i (List.mem_range.mp hi)]; decide
/-- a comprehension's emptiness: all do -/
theorem fl_all_eq {α : Type} [Inhabited α] (ps : List α) (f : α → Bool) (o : Nat → Int) : decide (fl (fun t => !f (ps.getD t default)) o ps.length = []) = ps.all f := by
  rw [Bool.eq_iff_iff, decide_eq_true_eq, fl_nil, List.all_eq_true]
  constructor
  · intro h x hx
    obtain ⟨i, hi⟩ := List.mem_iff_getElem?.mp hx
    have := h i (List.getElem?_eq_some_iff.mp hi).1
    rw [List.getD_eq_getElem?_getD, hi] at this
    simpa using this
  · intro h i hi
    have := h ps[i] (List.getElem_mem hi)
    rw [List.getD_eq_getElem?_getD, List.getElem?_eq_getElem hi]
    simpa using this
theorem getD_of {α : Type} [Inhabited α] {ps : List α} {i : Nat} {x : α} (h : ps[i]? = some x) : ps.getD i default = x := by rw [List.getD_eq_getElem?_getD, h]; rfl
end Hz
namespace Hz
open PySem PySem.Spec PyProof.Rows L2 RZ
theorem Prs.pick {L : Lg} {xs : List V} {ps : List (Int × Int)} (h : Prs L xs ps) {i : Int} (h0 : 0 ≤ i) (h1 : i < ps.length) : ∃ T p, L2.atI xs i = some (.ref T) ∧ ps[i.toNat]? = some p ∧ p ∈ ps ∧ (T, .tup [.int p.1, .int p.2]) ∈ L := by
  have hl := h.len
  have hv : xs[i.toNat]? = some (xs[i.toNat]'(by omega)) := List.getElem?_eq_getElem (by omega)
  obtain ⟨T, p, e, e2, m⟩ := h.at hv
  rw [e] at hv
  have := atI_nat hv
  rw [Int.toNat_of_nonneg h0] at this
  exact ⟨T, p, this, e2, List.mem_of_getElem? e2, m⟩
end Hz
namespace Hz
open PySem PySem.Spec PyProof.Rows L2 RZ
/-- ns[i:], i may lie behind the end -/
theorem cutI_after {ns : List Int} {i : Int} (h0 : 0 ≤ i) : cutI ns (some i) none = ns.drop i.toNat := by
  unfold cutI
  have e : HT.sIx ns.length 0 (some i) = min i.toNat ns.length := by
    show (if i < 0 then _ else min i.toNat ns.length) = min i.toNat ns.length
    rw [if_neg (by omega)]
  rw [e]
  show (ns.drop (min i.toNat ns.length)).take (ns.length - min i.toNat ns.length) = ns.drop i.toNat
  rw [List.take_of_length_le (by rw [List.length_drop]; exact Nat.le_refl _)]
  by_cases c : i.toNat ≤ ns.length
  · rw [Nat.min_eq_left c]
  · rw [Nat.min_eq_right (by omega), List.drop_length, List.drop_of_length_le (by omega)]
end Hz
namespace Hz
open PySem PySem.Spec PyProof.Rows L2 RZ
/-! ### lists of lists of ints -/
def rwD (r : List Int) : PyData := .list (r.map PyData.int)
/-- xs are lists of ints -/
def Rws (L : Lg) (xs : List V) (rs : List (List Int)) : Prop := DtAll L xs (rs.map rwD)
theorem Dt.rw_inv {L : Lg} {x : V} {r : List Int} (h : Dt L x (rwD r)) : ∃ T, x = .ref T ∧ (T, .lst (r.map V.int)) ∈ L := by
  unfold rwD at h
  cases h with
  | lst m q =>
    rename_i a xs
    have : ∀ {xs : List V} {zs : List Int}, DtAll L xs (zs.map PyData.int) → xs = zs.map V.int := by
      intro xs
      induction xs with
      | nil => intro zs h; cases zs <;> first | rfl | cases h
      | cons x r ih =>
        intro zs h
        cases zs with
        | nil => cases h
        | cons z s =>
          cases h with
          | cons h1 h2 =>
            cases h1
            rw [ih h2]; rfl
    rw [this q] at m
    exact ⟨_, rfl, m⟩
theorem Rws.len {L : Lg} {xs : List V} {rs : List (List Int)} (h : Rws L xs rs) : xs.length = rs.length := by
  have := DtAll.len h
  rwa [List.length_map] at this
theorem Rws.at {L : Lg} {xs : List V} {rs : List (List Int)} (h : Rws L xs rs) {i : Nat} {v : V} (e : xs[i]? = some v) : ∃ T r, v = .ref T ∧ rs[i]? = some r ∧ (T, .lst (r.map V.int)) ∈ L := by
  obtain ⟨d, e1, hd⟩ := DtAll.get h e
  rw [List.getElem?_map] at e1
  cases e2 : rs[i]? with
  | none => rw [e2] at e1; cases e1
  | some r =>
    rw [e2] at e1
    cases e1
    obtain ⟨T, rfl, m⟩ := hd.rw_inv
    exact ⟨T, r, rfl, rfl, m⟩
theorem Rws.mono {L M : Lg} (s : ∀ p ∈ L, p ∈ M) {xs : List V} {rs : List (List Int)} (h : Rws L xs rs) : Rws M xs rs := DtAll.mono s h
theorem Rws.app {L : Lg} {xs ys : List V} {ps qs : List (List Int)} (h : Rws L xs ps) (h2 : Rws L ys qs) : Rws L (xs ++ ys) (ps ++ qs) := by
  unfold Rws
  rw [List.map_append]
  exact DtAll.app h h2
theorem Rws.one {L : Lg} {T : Addr} {r : List Int} (m : (T, .lst (r.map V.int)) ∈ L) : Rws L [.ref T] [r] := .cons (Dt.ints m) .nil
theorem Rws.snoc {L : Lg} {xs : List V} {rs : List (List Int)} {T : Addr} {r : List Int} (h : Rws L xs rs) (m : (T, .lst (r.map V.int)) ∈ L) : Rws L (xs ++ [.ref T]) (rs ++ [r]) := h.app (.one m)
theorem Rws.set {L : Lg} {xs : List V} {rs : List (List Int)} {T : Addr} {r : List Int} (i : Nat) (h : Rws L xs rs) (m : (T, .lst (r.map V.int)) ∈ L) : Rws L (xs.set i (.ref T)) (rs.set i r) := by
  unfold Rws
  rw [List.map_set]
  exact DtAll.set i h (Dt.ints m)
theorem Rws.pick {L : Lg} {xs : List V} {rs : List (List Int)} (h : Rws L xs rs) {i : Int} (h0 : 0 ≤ i) (h1 : i < rs.length) : ∃ T r, L2.atI xs i = some (.ref T) ∧ rs[i.toNat]? = some r ∧ r ∈ rs ∧ (T, .lst (r.map V.int)) ∈ L := by
  have hl := h.len
  have hv : xs[i.toNat]? = some (xs[i.toNat]'(by omega)) := List.getElem?_eq_getElem (by omega)
  obtain ⟨T, p, e, e2, m⟩ := h.at hv
  rw [e] at hv
  have := atI_nat hv
  rw [Int.toNat_of_nonneg h0] at this
  exact ⟨T, p, this, e2, List.mem_of_getElem? e2, m⟩
/-- a comprehension's emptiness, the other way -/
theorem fl_any_eq {α : Type} [Inhabited α] (ps : List α) (f : α → Bool) (o : Nat → Int) : decide (fl (fun t => f (ps.getD t default)) o ps.length = []) = !ps.any f := by
  have h := fl_all_eq ps (fun x => !f x) o
  simp only [Bool.not_not] at h
  rw [h, List.not_any_eq_all_not]
end Hz
namespace Hz
open PySem PySem.Spec PyProof.Rows L2 RZ
/-- a value by two ways, what follows is walked once -/
theorem t_ifV {α : Type} {L : Lg} {σ σ' : SS} {b : Bool} {ta tb : TE} {Q : VK} (S : α → V) (X : α → Lg) (J : α → Prop) (h1 : b = true → ∀ Q : VK, (∀ y, J y → ∀ M, Sub M (X y) → Tr M fun H => Q (S y) H) → Tr L fun H => ta σ H Q)
    (h2 : b = false → ∀ Q : VK, (∀ y, J y → ∀ M, Sub M (X y) → Tr M fun H => Q (S y) H) → Tr L fun H => tb σ' H Q) (k : ∀ y, J y → Tr (X y) fun H => Q (S y) H) : Tr L fun H => if b = true then ta σ H Q else tb σ' H Q :=
  t_ite (fun h => h1 h Q fun y j _ s => (k y j).sub s) fun h => h2 h Q fun y j _ s => (k y j).sub s
end Hz
namespace Hz
open PySem PySem.Spec PyProof.Rows L2 RZ
theorem Sub.keep : ∀ (N : Lg) {L M : Lg}, Sub L M → Sub (N ++ L) (N ++ M)
  | [], _, _, h => h
  | _ :: N, _, _, h => .take .head (Sub.keep N h)
end Hz

namespace Hz
open PySem PySem.Spec PyProof.Rows L2 RZ
def topS (i : Nat) : Stmt := PySem.Challenge.pw_stickyheads_k02_headings_of_lines.main.body.getD i (.Pass ⟨0, 0, 0, 0⟩)
abbrev s_is_integer : Stmt := topS 6
theorem sc_is_integer : FnScope ["value"] ["value"] (defScope s_is_integer) := ⟨rfl, rfl, rfl, by decide +kernel, rfl, by decide +kernel, by decide +kernel⟩
abbrev s_is_outline : Stmt := topS 7
theorem sc_is_outline : FnScope ["value", "before", "depth"] ["value"] (defScope s_is_outline) := ⟨rfl, rfl, rfl, by decide +kernel, rfl, by decide +kernel, by decide +kernel⟩
abbrev s_check_outline : Stmt := topS 8
theorem sc_check_outline : FnScope ["outline"] ["outline"] (defScope s_check_outline) := ⟨rfl, rfl, rfl, by decide +kernel, rfl, by decide +kernel, by decide +kernel⟩
abbrev s_check_line : Stmt := topS 9
theorem sc_check_line : FnScope ["outline", "line"] ["outline", "line"] (defScope s_check_line) := ⟨rfl, rfl, rfl, by decide +kernel, rfl, by decide +kernel, by decide +kernel⟩
abbrev s_headings_of : Stmt := topS 10
theorem sc_headings_of : FnScope ["outline", "line", "found", "depth", "other"] ["outline", "line"] (defScope s_headings_of) := ⟨rfl, rfl, rfl, by decide +kernel, rfl, by decide +kernel, by decide +kernel⟩
abbrev s_headings : Stmt := topS 11
theorem sc_headings : FnScope ["outline", "line"] ["outline", "line"] (defScope s_headings) := ⟨rfl, rfl, rfl, by decide +kernel, rfl, by decide +kernel, by decide +kernel⟩
abbrev s_law_source : Stmt := topS 13
theorem sc_law_source : FnScope ["cell", "k"] ["cell", "k"] (defScope s_law_source) := ⟨rfl, rfl, rfl, by decide +kernel, rfl, by decide +kernel, by decide +kernel⟩
abbrev s_law_draw : Stmt := topS 14
theorem sc_law_draw : FnScope ["source", "count", "digit", "mixed"] ["source", "count"] (defScope s_law_draw) := ⟨rfl, rfl, rfl, by decide +kernel, rfl, by decide +kernel, by decide +kernel⟩
abbrev s_law_depths : Stmt := topS 15
theorem sc_law_depths : FnScope ["source", "most", "style", "size", "found", "step", "last", "next_ones"] ["source", "most"] (defScope s_law_depths) := ⟨rfl, rfl, rfl, by decide +kernel, rfl, by decide +kernel, by decide +kernel⟩
abbrev s_law_lines : Stmt := topS 16
theorem sc_law_lines : FnScope ["source", "depths", "step"] ["source", "depths"] (defScope s_law_lines) := ⟨rfl, rfl, rfl, by decide +kernel, rfl, by decide +kernel, by decide +kernel⟩
abbrev s_law_headings : Stmt := topS 17
theorem sc_law_headings : FnScope ["depths", "place", "found", "depth", "k"] ["depths", "place"] (defScope s_law_headings) := ⟨rfl, rfl, rfl, by decide +kernel, rfl, by decide +kernel, by decide +kernel⟩
abbrev s_law_end : Stmt := topS 18
theorem sc_law_end : FnScope ["depths", "place", "later", "k"] ["depths", "place"] (defScope s_law_end) := ⟨rfl, rfl, rfl, by decide +kernel, rfl, by decide +kernel, by decide +kernel⟩
abbrev s_law_equal : Stmt := topS 19
theorem sc_law_equal : FnScope ["result", "expected", "one", "other"] ["result", "expected"] (defScope s_law_equal) := ⟨rfl, rfl, rfl, by decide +kernel, rfl, by decide +kernel, by decide +kernel⟩
abbrev s_law_holds : Stmt := topS 20
theorem sc_law_holds : FnScope ["source", "most", "depths", "step", "before", "place", "expected", "attempt", "result", "depth"] ["source", "most"] (defScope s_law_holds) := ⟨rfl, rfl, rfl, by decide +kernel, rfl, by decide +kernel, by decide +kernel⟩
abbrev s_law : Stmt := topS 21
theorem sc_law : FnScope ["script", "k", "cell"] ["script"] (defScope s_law) := ⟨rfl, rfl, rfl, by decide +kernel, rfl, by decide +kernel, by decide +kernel⟩
/-! the steps -/
local macro_rules | `(tactic| walk_at "pk") => `(tactic| first | exact Pick.head | (apply Pick.tail; walk_at "pk") | (apply Pick.app; walk_at "pk") | assumption)
local macro_rules | `(tactic| walk_at "mb") => `(tactic| first | assumption | exact List.mem_cons_self | (apply List.mem_cons_of_mem; walk_at "mb") | (apply List.mem_append_right; walk_at "mb") | (exact Pick.mem (by assumption)))
local macro_rules | `(tactic| walk_at "sa") => `(tactic| first | exact SetAt.zero | (apply SetAt.succ; walk_at "sa"))
local macro_rules | `(tactic| walk_at "ga") => `(tactic| first | exact GetAt.zero | (apply GetAt.succ; walk_at "ga"))
local macro_rules | `(tactic| walk_at "sb") => `(tactic| first | exact Sub.refl | ((fail_if_success apply Sub.take); first | (apply Sub.keep; walk_at "sb") | (apply Sub.drop; walk_at "sb") | (apply Sub.app; walk_at "sb")) | (apply Sub.take; (walk_at "pk"); (walk_at "sb")))
local macro_rules | `(tactic| walk_at "pre") => `(tactic| first | exact Pre.nil | (apply Pre.cons; walk_at "pre") | (apply Pre.app; walk_at "pre"))
local macro_rules | `(tactic| walk_at "ty") => `(tactic| first | assumption | exact HasTy.non | exact HasTy.bl _ | exact HasTy.int _ | exact HasTy.str _ | (apply HasTy.lst; walk_at "mb") | (apply HasTy.tup; walk_at "mb") | (apply HasTy.dct; walk_at "mb"))
local macro_rules | `(tactic| walk_at "hx") => `(tactic| first
  | ((with_reducible refine' t_is ?ty ?mem ?_); (case ty => walk_at "ty"); (case mem => decide)))
local macro_rules | `(tactic| walk_at "sz") => `(tactic| first | (with_unfolding_all decide) | (rw [sizeLine_eq]; omega) | (simp only [sizeLine_eq, List.length_append, List.length_map, List.length_cons, List.length_nil, List.length_replicate, List.length_take, List.length_drop, List.length_reverse]; omega))
local macro_rules | `(tactic| walk_at "hz") => `(tactic| first
  | (with_reducible refine t_seq ?_)
  | (with_reducible refine t_asg ?_)
  | (with_reducible refine t_whBT ?_) | (with_reducible refine t_whBF ?_) | (with_reducible refine t_nxP ?_) | (with_reducible refine t_nxW ?_) | (with_reducible refine t_ctP ?_) | (with_reducible refine t_ctW ?_)
  | ((with_reducible refine' t_varA ?ga ?_); (case ga => walk_at "ga"))
  | (with_reducible refine t_c ?_)
  | ((with_reducible refine' t_name ?sa ?_); (case sa => walk_at "sa"))
  | (with_reducible refine t_op ?_)
  | (with_reducible refine t_rI0 ?_)
  | (with_reducible refine t_rU ?_)
  | (with_reducible refine t_eqI ?_)
  | (with_reducible refine t_neI ?_)
  | (with_reducible refine t_cons ?_)
  | (with_reducible refine t_nil ?_)
  | ((with_reducible refine t_dnewK ?_); intro)
  | (with_reducible refine t_callS ?_) | (with_reducible refine t_callGK ?_)
  | (with_reducible refine t_CB ?_)
  | (with_reducible refine t_if ?_)
  | (with_reducible refine t_test ?_)
  | (with_reducible refine t_bl ?_)
  | (with_reducible refine t_iteT ?_)
  | (with_reducible refine t_iteF ?_)
  | (with_reducible refine t_lst ?_)
  | (with_reducible refine t_tup ?_)
  | ((with_reducible refine t_newL ?sz ?_); (case sz => walk_at "sz"); intro)
  | ((with_reducible refine t_newT ?sz ?_); (case sz => walk_at "sz"); intro)
  | (with_reducible refine t_un ?_)
  | (with_reducible refine t_B ?_)
  | (with_reducible refine t_and ?_)
  | (with_reducible refine t_or ?_)
  | (with_reducible refine t_not ?_)
  | (with_reducible refine t_andV ?_)
  | (with_reducible refine t_orV ?_)
  | (with_reducible refine t_notV ?_)
  | (with_reducible refine t_ifE ?_)
  | (with_reducible refine t_chain ?_)
  | (with_reducible refine t_ret ?_)
  | (with_reducible refine t_retN ?_)
  | (with_reducible refine t_drop ?_)
  | (with_reducible refine t_for ?_)
  | (with_reducible refine t_lc ?_)
  | (with_reducible refine t_next ?_)
  | (with_reducible refine t_BM ?_)
  | (with_reducible refine t_BM0 ?_)
  | ((with_reducible refine' t_tyL ?pk ?_); (case pk => walk_at "pk"))
  | (with_reducible refine t_tyS ?_)
  | ((with_reducible refine' t_ixI ?pk ?sd ?sd2 ?_); (case pk => walk_at "pk"); (case sd => omega); (case sd2 => omega))
  | ((with_reducible refine' t_ixL ?pk ?at_ ?_); (case pk => walk_at "pk"); (case at_ => walk_at "at"))
  | ((with_reducible refine' t_ixT ?pk ?at_ ?_); (case pk => walk_at "pk"); (case at_ => walk_at "at"))
  | ((with_reducible refine' t_appI ?pk ?sz ?_); (case pk => walk_at "pk"); (case sz => walk_at "sz"))
  | ((with_reducible refine' t_append ?pk ?sz ?_); (case pk => walk_at "pk"); (case sz => walk_at "sz"))
  | ((with_reducible refine' t_reverse ?pk ?_); (case pk => walk_at "pk"))
  | ((with_reducible refine' t_extend ?pk ?pk2 ?sz ?_); (case pk => walk_at "pk"); (case pk2 => walk_at "pk"); (case sz => walk_at "sz"))
  | (with_reducible refine t_slice ?_)
  | (with_reducible refine t_noPart ?_)
  | (with_reducible refine t_part ?_)
  | (with_reducible refine t_int ?_)
  | ((with_reducible refine' t_slI ?pk ?_); (case pk => walk_at "pk"); intro)
  | ((with_reducible refine' t_slL ?pk ?_); (case pk => walk_at "pk"); intro)
  | ((with_reducible refine' t_catI ?pk ?pk2 ?sz ?_); (case pk => walk_at "pk"); (case pk2 => walk_at "pk"); (case sz => walk_at "sz"); intro)
  | ((with_reducible refine' t_cat ?pk ?pk2 ?sz ?_); (case pk => walk_at "pk"); (case pk2 => walk_at "pk"); (case sz => walk_at "sz"); intro)
  | ((with_reducible refine' t_augA ?ga ?_); (case ga => walk_at "ga"))
  | (with_reducible refine t_ipI ?_)
  | (with_reducible refine t_par ?_)
  | (with_reducible refine t_two ?_)
  | (with_reducible refine t_sub ?_) | (with_reducible refine t_gSl ?_)
  | ((with_reducible refine' t_setAll ?pk ?pk2 ?sz ?_); (case pk => walk_at "pk"); (case pk2 => walk_at "pk"); (case sz => walk_at "sz"))
  | ((with_reducible refine' t_tupG ?pk ?n ?_); (case pk => walk_at "pk"); (case n => rfl))
  | ((with_reducible refine' t_lstG ?pk ?n ?_); (case pk => walk_at "pk"); (case n => rfl))
  | (with_reducible refine t_consG ?_)
  | (with_reducible refine t_nilG ?_)
  | (with_reducible refine t_isN ?_)
  | (with_reducible refine t_notN ?_)
  | (with_reducible refine t_eqB ?_)
  | (with_reducible refine t_eqS ?_)
  | (with_reducible refine t_neB ?_)
  | (with_reducible refine t_neS ?_)
  | (with_reducible refine t_iL ?_) | (with_reducible refine t_iT ?_) | (with_reducible refine t_iR1 ?_) | (with_reducible refine t_iR2 ?_) | (with_reducible refine t_iR3 ?_)
  | (with_reducible refine t_iZA ?_) | (with_reducible refine t_iE ?_) | (with_reducible refine t_iZ ?_) | (with_reducible refine t_iS ?_)
  | ((with_reducible refine' t_itL ?pk ?_); (case pk => walk_at "pk"))
  | ((with_reducible refine' t_itT ?pk ?_); (case pk => walk_at "pk"))
  | ((with_reducible refine' t_itE ?pk ?_); (case pk => walk_at "pk"))
  | ((with_reducible refine' t_itZ ?pk ?pk2 ?_); (case pk => walk_at "pk"); (case pk2 => walk_at "pk"))
  | ((with_reducible refine' t_itZL ?pk ?pk2 ?_); (case pk => walk_at "pk"); (case pk2 => walk_at "pk"))
  | (with_reducible refine t_itS ?_)
  | ((with_reducible refine t_wiped ?w ?_); (case w => rfl))
  | (with_reducible refine t_yes ?_)
  | ((with_reducible refine' t_rep ?pk ?sd ?sd2 ?sz ?_); (case pk => walk_at "pk"); (case sd => decide); (case sd2 => decide); (case sz => walk_at "sz"); intro)
  | ((with_reducible refine' t_lenI ?pk ?_); (case pk => walk_at "pk"))
  | ((with_reducible refine' t_lenL ?pk ?_); (case pk => walk_at "pk"))
  | ((with_reducible refine' t_lenT ?pk ?_); (case pk => walk_at "pk"))
  | ((with_reducible refine t_rI ?sd ?_); (case sd => walk_at "sd"))
  | (with_reducible refine t_max2 ?_) | (with_reducible refine t_min2 ?_)
  | (with_reducible refine t_intI ?_) | (with_reducible refine t_intB ?_)
  | ((with_reducible refine t_itR1 ?sd ?sd2 ?_); (case sd => walk_at "sd"); (case sd2 => walk_at "sd"))
  | ((with_reducible refine t_itR2 ?sd ?_); (case sd => walk_at "sd"))
  | (with_reducible refine t_lstRg ?_) | (with_reducible refine t_rg1 ?_) | (with_reducible refine t_rg2 ?_) | (with_reducible refine t_int2 ?_)
  | ((with_reducible refine t_rgI ?sd ?_); (case sd => walk_at "sd"); intro)
  | ((with_reducible refine t_newRg ?sd ?_); (case sd => walk_at "sd"); intro)
  | (with_reducible refine t_revL ?_)
  | ((with_reducible refine' t_revI ?pk ?_); (case pk => walk_at "pk"); intro)
  | ((with_reducible refine' t_newRev ?pk ?_); (case pk => walk_at "pk"); intro)
  | (with_reducible refine t_isB ?_) | (with_reducible refine t_notB ?_)
  | ((with_reducible refine' t_listL ?pk ?_); (case pk => walk_at "pk"); intro)
  | ((with_reducible refine' t_listT ?pk ?_); (case pk => walk_at "pk"); intro)
  | ((with_reducible refine' t_tupleL ?pk ?_); (case pk => walk_at "pk"); intro)
  | ((with_reducible refine' t_inI ?pk ?_); (case pk => walk_at "pk"))
  | ((with_reducible refine' t_notInI ?pk ?_); (case pk => walk_at "pk"))
  | ((with_reducible refine t_ifT ?h ?_); (case h => first | decide | rfl))
  | ((with_reducible refine t_ifF ?h ?_); (case h => first | decide | rfl))
  | (with_reducible refine t_sortSet ?_) | (with_reducible refine t_lenSetV ?_)
  | (with_reducible refine t_ifR ?_) | (with_reducible refine t_ifNR ?_)
  | ((with_reducible refine t_ifDT ?h ?_); (case h => omega)) | ((with_reducible refine t_ifDF ?h ?_); (case h => omega))
  | ((with_reducible refine t_ifNT ?h ?_); (case h => omega)) | ((with_reducible refine t_ifNF ?h ?_); (case h => omega)))
local macro_rules | `(tactic| walk_at "sd") => `(tactic| first | omega | assumption | (exact .inl (by omega)) | (exact .inr (.inl (by omega))) | (refine And.intro ?_ ?_ <;> omega) | decide | (exact ⟨by omega, by omega, by omega, by omega⟩) | (exact RgOk.of_le (by omega) (by omega) (by omega) (by omega)))
local macro_rules | `(tactic| walk_at "at") => `(tactic| first | rfl | exact atI_nat (by assumption) | exact atI_nat rfl)
section
variable {P : Program} {w : World} {K : PySem.W.Frag} {mg : Str → Option Value} {base : Heap}
/-! ### is_integer, is_outline, check_outline -/
def isInt : V → Bool
  | .int _ => true
  | _ => false
def chainV : Int → List V → Bool
  | _, [] => true
  | b, .int d :: r => decide (0 ≤ d) && decide (d ≤ b + 1) && chainV d r
  | _, _ :: _ => false
/-- the list is an outline -/
def outV (xs : List V) : Bool := decide (1 ≤ xs.length) && decide (xs.length ≤ 200) && chainV (-1) xs
def sp_is_integer : Sp := fun vs H Q _ => ∃ (x : V) (T : String) (L : Lg), vs = [x] ∧ Led H L ∧ HasTy L x T ∧ Tr L (fun H => Q (.bl (isInt x)) H)
theorem use_is_integer {L : Lg} {Q : VK} {E : XK} {x : V} {T : String} (h : HasTy L x T) (k : Tr L fun H => Q (.bl (isInt x)) H) : Tr L fun H => sp_is_integer [x] H Q E := fun H l => ⟨x, T, L, rfl, l, h, k⟩
theorem isInt_isB {L : Lg} {x : V} {T : String} (h : HasTy L x T) : (isB T "int" && !isB T "bool") = isInt x := by cases h <;> rfl
theorem ok_is_integer (D : Df K mg "is_integer" s_is_integer) (B : Blt mg) : Ok P w K mg base CX0 1 "is_integer" ["value"] sp_is_integer := by
  obtain ⟨f, fd, hm, F⟩ := D
  refine ⟨f, fd, hm, F.kp, F.binds (fun _ _ _ _ _ _ us hl => match us, hl with | [_], _ => rfl), FunOkG F sc_is_integer (fun vs H Q E h => ?_) (fun cdv A outer s H vs Q E hr h => ?_), F.lk⟩
  · obtain ⟨x, T, L, rfl, _⟩ := h; rfl
  · obtain ⟨x, T, L, rfl, l, ht, q⟩ := h
    refine ⟨_, PSs.nox (pss_one (ps_ret (pe_and (pe_callB c_is rfl B.isinstance_ boot_isinstance (pa_cons (pv 0) (pa_cons (pe_ty B.int_ boot_int) pa_nil))) (pe_one (pe_not (pe_callB c_is rfl B.isinstance_ boot_isinstance (pa_cons (pv 0) (pa_cons (pe_ty B.bool_ boot_bool) pa_nil)))))))), ?_⟩
    rw [show L2.start ["value"] [x] = [some x] from rfl]
    refine Tr.of (L := L) ?_ l
    repeat walk_at "hz"
    refine t_is ht (by decide) ?_
    repeat walk_at "hz"
    have e := isInt_isB ht
    refine t_ite (fun h1 => ?_) fun h1 => ?_
    · repeat walk_at "hz"
      refine t_is ht (by decide) ?_
      repeat walk_at "hz"
      rw [h1, Bool.true_and] at e
      rw [e]
      exact q
    · repeat walk_at "hz"
      rw [h1, Bool.false_and] at e
      rw [e]
      exact q
/-- what is_outline answers -/
def OutIs (L : Lg) (x : V) (b : Bool) : Prop := (∃ a xs, x = .ref a ∧ (a, .lst xs) ∈ L ∧ (∀ y ∈ xs, ∃ T, HasTy L y T) ∧ b = outV xs) ∨ (∃ T, HasTy L x T ∧ T ≠ "list" ∧ b = false)
def sp_is_outline : Sp := fun vs H Q _ => ∃ (x : V) (b : Bool) (L : Lg), vs = [x] ∧ Led H L ∧ OutIs L x b ∧ Tr L (fun H => Q (.bl b) H)
theorem use_is_outline {L : Lg} {Q : VK} {E : XK} {x : V} {b : Bool} (h : OutIs L x b) (k : Tr L fun H => Q (.bl b) H) : Tr L fun H => sp_is_outline [x] H Q E := fun H l => ⟨x, b, L, rfl, l, h, k⟩
theorem chainV_not {b : Int} {v : V} {r : List V} (h : isInt v = false) : chainV b (v :: r) = false := by
  cases v <;> first | rfl | cases h
theorem drop_cons {α : Type} {xs : List α} {i : Nat} {v : α} (h : xs[i]? = some v) : xs.drop i = v :: xs.drop (i + 1) := by
  obtain ⟨h1, h2⟩ := List.getElem?_eq_some_iff.mp h
  rw [List.drop_eq_getElem_cons h1, h2]
theorem isB_list {T : String} (h : T ∈ tyNames) (n : T ≠ "list") : isB T "list" = false := by
  unfold isB
  simp [n]
theorem ok_is_outline (D : Df K mg "is_outline" s_is_outline) (B : Blt mg) (g_MAX_LINES : GV mg "MAX_LINES" (.int 200)) (k_is_integer : Ok P w K mg base CX0 1 "is_integer" ["value"] sp_is_integer) :
    Ok P w K mg base CX0 2 "is_outline" ["value"] sp_is_outline := by
  obtain ⟨f, fd, hm, F⟩ := D
  refine ⟨f, fd, hm, F.kp, F.binds (fun _ _ _ _ _ _ us hl => match us, hl with | [_], _ => rfl), FunOkG F sc_is_outline (fun vs H Q E h => ?_) (fun cdv A outer s H vs Q E hr h => ?_), F.lk⟩
  · obtain ⟨x, T, L, rfl, _⟩ := h; rfl
  · obtain ⟨x, b, L, rfl, l, ho, q⟩ := h
    refine ⟨_, PSs.nox (pss_cons (ps_if (PW.pt (pw_or (pt_not (pt_val (pe_callB c_is rfl B.isinstance_ boot_isinstance (pa_cons (pv 0) (pa_cons (pe_ty B.list_ boot_list) pa_nil))))) (pw_or1 (pt_not (pt_chain op_le op_le pe_int (pe_callB c_len rfl B.len_ boot_len (pa_cons (pv 0) pa_nil)) (pe_gv g_MAX_LINES)))))) (pss_one (ps_ret pe_bl))
        pss_nil)
      (pss_cons (ps_set (i := 1) sc_is_outline.nd rfl (.inl rfl) (pe_un un_neg pe_int))
      (pss_cons (ps_for PassesOwn.never rfl (pi_list (pv 0)) (pg_name (i := 2) sc_is_outline.nd rfl (.inl rfl))
        (pss_cons (ps_if (PW.pt (pw_or (pt_not (pt_val (pe_callG k_is_integer (hr.mono (by omega)) pas0 (pa_cons (pv 2) pa_nil)))) (pw_or1 (pt_not (pt_chain op_le op_le pe_int (pv 2) (pe_op op_add (pv 1) pe_int)))))) (pss_one (ps_ret pe_bl))
        pss_nil)
      (pss_one (ps_set (i := 1) sc_is_outline.nd rfl (.inl rfl) (pv 2)))))
      (pss_one (ps_ret pe_bl))))), ?_⟩
    rw [show L2.start ["value", "before", "depth"] [x] = [some x, none, none] from rfl]
    refine Tr.of (L := L) ?_ l
    repeat walk_at "hz"
    rcases ho with ⟨a, xs, rfl, hm, hty, rfl⟩ | ⟨T, ht, hn, rfl⟩
    · refine t_is (.lst hm) (by decide) ?_
      obtain ⟨R, hp⟩ := Pick.of_mem hm
      repeat walk_at "hz"
      refine t_iteD (fun h1 => ?_) fun h1 => ?_
      · repeat walk_at "hz"
        refine t_iteND (fun h2 => ?_) fun h2 => ?_
        · repeat walk_at "hz"
          rw [show outV xs = false by unfold outV; rw [show decide (xs.length ≤ 200) = false from decide_eq_false (by omega), Bool.and_false, Bool.false_and]] at q
          exact q
        · repeat walk_at "hz"
          refine t_forK wk_list (fun i y => [some (.ref a), some (.int y.1), y.2]) (fun _ _ => L) (fun i y => chainV (-1) xs = chainV y.1 (xs.drop i)) ⟨((-1 : Int), none), rfl, rfl, .refl⟩ (fun _ _ _ => ⟨R, hp⟩) ?_ ?_
          · rintro i ⟨b, d⟩ v L' hi hc ⟨hv, rfl⟩
            dsimp only at hc ⊢
            rw [drop_cons hv] at hc
            obtain ⟨T, ht⟩ := hty v (List.mem_of_getElem? hv)
            show Tr L _
            repeat walk_at "hz"
            refine use_is_integer ht ?_
            repeat walk_at "hz"
            refine t_ite (fun h3 => ?_) fun h3 => ?_
            · repeat walk_at "hz"
              rw [show outV xs = false by unfold outV; rw [hc, chainV_not (by simpa using h3), Bool.and_false]] at q
              exact q
            · have h4 : isInt v = true := by simpa using h3
              obtain ⟨m, rfl⟩ : ∃ m, v = .int m := by
                cases v <;> first | exact ⟨_, rfl⟩ | cases h4
              repeat walk_at "hz"
              refine t_iteD (fun h5 => ?_) fun h5 => ?_
              · repeat walk_at "hz"
                refine t_iteND (fun h6 => ?_) fun h6 => ?_
                · repeat walk_at "hz"
                  rw [show outV xs = false by unfold outV; rw [hc, chainV, decide_eq_false h6, Bool.and_false, Bool.false_and, Bool.and_false]] at q
                  exact q
                · repeat walk_at "hz"
                  refine t_pst (m, some (V.int m)) ?_ (by rfl) (by walk_at "sb")
                  rw [hc, chainV, decide_eq_true h5, decide_eq_true h6]; rfl
              · repeat walk_at "hz"
                rw [show outV xs = false by unfold outV; rw [hc, chainV, decide_eq_false h5, Bool.false_and, Bool.false_and, Bool.and_false]] at q
                exact q
          · rintro ⟨b, d⟩ hc
            repeat walk_at "hz"
            rw [List.drop_length] at hc
            rw [show outV xs = true by unfold outV; rw [hc, decide_eq_true (by omega), decide_eq_true (by omega)]; rfl] at q
            exact q
      · repeat walk_at "hz"
        rw [show outV xs = false by unfold outV; rw [show decide (1 ≤ xs.length) = false from decide_eq_false (by omega), Bool.false_and, Bool.false_and]] at q
        exact q
    · refine t_is ht (by decide) ?_
      rw [isB_list ht.name hn]
      repeat walk_at "hz"
      exact q
theorem chainV_ints : ∀ (b : Int) (ns : List Int), chainV b (ns.map V.int) = true ↔ chainI b ns
  | _, [] => by simp [chainV, chainI]
  | b, d :: r => by
    show (decide (0 ≤ d) && decide (d ≤ b + 1) && chainV d (r.map V.int)) = true ↔ (0 ≤ d ∧ d ≤ b + 1 ∧ chainI d r)
    rw [Bool.and_eq_true, Bool.and_eq_true, chainV_ints d r, decide_eq_true_eq, decide_eq_true_eq, and_assoc]
/-- the depths of an outline -/
def Outline (ns : List Int) : Prop := outV (ns.map V.int) = true
theorem outline_iff {ns : List Int} : Outline ns ↔ 1 ≤ ns.length ∧ ns.length ≤ 200 ∧ chainI (-1) ns := by
  unfold Outline outV
  rw [List.length_map, Bool.and_eq_true, Bool.and_eq_true, chainV_ints, decide_eq_true_eq, decide_eq_true_eq, and_assoc]
theorem Outline.chain {ns : List Int} (h : Outline ns) : chainI (-1) ns := (outline_iff.mp h).2.2
theorem Outline.len {ns : List Int} (h : Outline ns) : 1 ≤ ns.length ∧ ns.length ≤ 200 := ⟨(outline_iff.mp h).1, (outline_iff.mp h).2.1⟩
theorem Outline.bound {ns : List Int} (h : Outline ns) {i : Nat} {d : Int} (e : ns[i]? = some d) : 0 ≤ d ∧ d ≤ i := by
  have := chainI_bounds _ _ h.chain i d e
  omega
theorem Outline.small {ns : List Int} (h : Outline ns) : ∀ n ∈ ns, n.natAbs < 2 ^ 1000 := fun n hn => by
  obtain ⟨i, e⟩ := List.mem_iff_getElem?.mp hn
  have b := h.bound e
  have l := (List.getElem?_eq_some_iff.mp e).1
  have := h.len.2
  have z : (200 : Nat) < 2 ^ 1000 := by decide
  omega

/-! ### check_outline (of an outline), stops_of, stops -/
def sp_check_outline : Sp := fun vs H Q _ => ∃ (a : Addr) (ns : List Int) (L : Lg), vs = [.ref a] ∧ Led H L ∧ (a, .lst (ns.map V.int)) ∈ L ∧ Outline ns ∧ Tr L (fun H => Q .non H)
theorem use_check_outline {L : Lg} {Q : VK} {E : XK} {a : Addr} {ns : List Int} (hm : (a, .lst (ns.map V.int)) ∈ L) (ho : Outline ns) (k : Tr L fun H => Q .non H) : Tr L fun H => sp_check_outline [.ref a] H Q E := fun H l => ⟨a, ns, L, rfl, l, hm, ho, k⟩
theorem outIs_ints {L : Lg} {a : Addr} {ns : List Int} (hm : (a, .lst (ns.map V.int)) ∈ L) : OutIs L (.ref a) (outV (ns.map V.int)) :=
  .inl ⟨a, _, rfl, hm, fun y hy => by obtain ⟨n, _, rfl⟩ := List.mem_map.mp hy; exact ⟨_, .int n⟩, rfl⟩
theorem ok_check_outline (D : Df K mg "check_outline" s_check_outline) (k_is_outline : Ok P w K mg base CX0 2 "is_outline" ["value"] sp_is_outline) :
    Ok P w K mg base CX0 3 "check_outline" ["outline"] sp_check_outline := by
  obtain ⟨f, fd, hm, F⟩ := D
  refine ⟨f, fd, hm, F.kp, F.binds (fun _ _ _ _ _ _ us hl => match us, hl with | [_], _ => rfl), FunOkG F sc_check_outline (fun vs H Q E h => ?_) (fun cdv A outer s H vs Q E hr h => ?_), F.lk⟩
  · obtain ⟨a, ns, L, rfl, _⟩ := h; rfl
  · obtain ⟨a, ns, L, rfl, l, hm, ho, q⟩ := h
    refine ⟨_, PSs.nox (pss_one (ps_if (pt_not (pt_val (pe_callG k_is_outline (hr.mono (by omega)) pas0 (pa_cons (pv 0) pa_nil)))) pss_never
        pss_nil)), ?_⟩
    rw [show L2.start ["outline"] [.ref a] = [some (.ref a)] from rfl]
    refine Tr.of (L := L) ?_ l
    repeat walk_at "hz"
    refine use_is_outline (outIs_ints hm) ?_
    repeat walk_at "hz"
    refine t_ifF (by rw [show outV (ns.map V.int) = true from ho]; rfl) ?_
    repeat walk_at "hz"
    exact q
/-- line minus depth -/
def stopsFrom : Int → List Int → List Int
  | _, [] => []
  | k, d :: r => (k - d) :: stopsFrom (k + 1) r
def stopsI (ns : List Int) : List Int := stopsFrom 0 ns
theorem stopsFrom_len : ∀ (k : Int) (ns : List Int), (stopsFrom k ns).length = ns.length
  | _, [] => rfl
  | k, d :: r => by rw [stopsFrom, List.length_cons, List.length_cons, stopsFrom_len]
theorem stopsFrom_get : ∀ (k : Int) (ns : List Int) (i : Nat) (d : Int), ns[i]? = some d → (stopsFrom k ns)[i]? = some (k + i - d)
  | k, d :: r, 0, e, h => by
    cases h
    show some (k - d) = some (k + ((0 : Nat) : Int) - d)
    congr 1; omega
  | k, d :: r, i + 1, e, h => by
    show (stopsFrom (k + 1) r)[i]? = _
    rw [stopsFrom_get (k + 1) r i e (by simpa using h)]
    congr 1; omega
theorem map_get {α β : Type} {f : α → β} {xs : List α} {i : Nat} {y : β} (h : (xs.map f)[i]? = some y) : ∃ x, xs[i]? = some x ∧ y = f x := by
  rw [List.getElem?_map] at h
  cases e : xs[i]? with
  | none => rw [e] at h; cases h
  | some x => rw [e] at h; cases h; exact ⟨x, rfl, rfl⟩
theorem get_map {α β : Type} (f : α → β) {xs : List α} {i : Nat} {x : α} (h : xs[i]? = some x) : (xs.map f)[i]? = some (f x) := by rw [List.getElem?_map, h]; rfl

/-! ### the law's source of draws, its outlines -/
/-- a source: what is left of the digits, a number, how many were drawn (at most m) -/
def Src (m : Nat) (o : HO) : Prop := ∃ s0 s1 s2 : Int, o = .lst [.int s0, .int s1, .int s2] ∧ 0 ≤ s0 ∧ 0 ≤ s1 ∧ s1 < 2 ^ 140 ∧ 0 ≤ s2 ∧ s2 ≤ m
theorem Src.le {m n : Nat} {o : HO} (h : Src m o) (e : m ≤ n) : Src n o := by
  obtain ⟨s0, s1, s2, h1, h2, h3, h4, h5, h6⟩ := h
  exact ⟨s0, s1, s2, h1, h2, h3, h4, h5, by omega⟩
def sp_law_source : Sp := fun vs H Q _ => ∃ (c k : Int) (L : Lg), vs = [.int c, .int k] ∧ Led H L ∧ 0 ≤ k ∧ k < 1000 ∧ ∀ p o, Src 0 o → Tr ((p, o) :: L) (fun H => Q (.ref p) H)
theorem use_law_source {L : Lg} {Q : VK} {E : XK} {c k : Int} (h0 : 0 ≤ k) (h1 : k < 1000) (q : ∀ p o, Src 0 o → Tr ((p, o) :: L) fun H => Q (.ref p) H) : Tr L fun H => sp_law_source [.int c, .int k] H Q E := fun H l => ⟨c, k, L, rfl, l, h0, h1, q⟩
theorem ok_law_source (D : Df K mg "_law_source" s_law_source) (B : Blt mg) : Ok P w K mg base CX0 1 "_law_source" ["cell", "k"] sp_law_source := by
  obtain ⟨f, fd, hm, F⟩ := D
  refine ⟨f, fd, hm, F.kp, F.binds (fun _ _ _ _ _ _ us hl => match us, hl with | [_, _], _ => rfl), FunOkG F sc_law_source (fun vs H Q E h => ?_) (fun cdv A outer s H vs Q E hr h => ?_), F.lk⟩
  · obtain ⟨c, k, L, rfl, _⟩ := h; rfl
  · obtain ⟨c, k, L, rfl, l, h0, h1, q⟩ := h
    refine ⟨_, PSs.nox (pss_one (ps_ret (pe_lst (pa_cons (pe_callB (c_max2 rfl) rfl B.max_ boot_max (pa_cons pe_int (pa_cons (pe_op op_sub (pv 0) (pe_op op_powW pe_int pe_int)) pa_nil))) (pa_cons (pe_op op_add (pe_op op_mulA (pe_op op_mod (pv 0) (pe_op op_add (pe_op op_powW pe_int pe_int) pe_int)) pe_int) (pv 1)) (pa_cons pe_int pa_nil)))))), ?_⟩
    rw [show L2.start ["cell", "k"] [.int c, .int k] = [some (.int c), some (.int k)] from rfl]
    refine Tr.of (L := L) ?_ l
    repeat walk_at "hz"
    refine t_rI (pow_ok 4 (by decide) (by decide) (by decide) (by decide)) ?_
    repeat walk_at "hz"
    refine t_rI (pow_ok 4 (by decide) (by decide) (by decide) (by decide)) ?_
    repeat walk_at "hz"
    have e1 : (10 : Int) ^ (18 : Int).toNat = 1000000000000000000 := by decide
    have e2 : (10 : Int) ^ (37 : Int).toNat = 10000000000000000000000000000000000000 := by decide
    rw [e1, e2]
    have b1 := Int.emod_nonneg c (show (10000000000000000000000000000000000000 + 43 : Int) ≠ 0 by decide)
    have b2 := Int.emod_lt_of_pos c (show (0 : Int) < 10000000000000000000000000000000000000 + 43 by decide)
    repeat walk_at "hz"
    refine q _ _ ⟨_, _, _, rfl, by omega, by omega, by omega, by omega, by omega⟩
def sp_law_draw : Sp := fun vs H Q _ => ∃ (a : Addr) (c : Int) (m : Nat) (o : HO) (F : Lg), vs = [.ref a, .int c] ∧ Led H ((a, o) :: F) ∧ Src m o ∧ m ≤ 1000000000 ∧ 0 < c ∧ c < 2 ^ 200 ∧
  ∀ d o', 0 ≤ d → d < c → Src (m + 1) o' → Tr ((a, o') :: F) (fun H => Q (.int d) H)
theorem use_law_draw {L F : Lg} {Q : VK} {E : XK} {a : Addr} {c : Int} {m : Nat} {o : HO} (hp : Pick a o L F) (hs : Src m o) (hm : m ≤ 1000000000) (h0 : 0 < c) (h1 : c < 2 ^ 200)
    (q : ∀ d o', 0 ≤ d → d < c → Src (m + 1) o' → Tr ((a, o') :: F) fun H => Q (.int d) H) : Tr L fun H => sp_law_draw [.ref a, .int c] H Q E := fun H l => ⟨a, c, m, o, F, rfl, l.pick hp, hs, hm, h0, h1, q⟩
theorem ok_law_draw (D : Df K mg "_law_draw" s_law_draw) (B : Blt mg) : Ok P w K mg base CX0 1 "_law_draw" ["source", "count"] sp_law_draw := by
  obtain ⟨f, fd, hm, F⟩ := D
  refine ⟨f, fd, hm, F.kp, F.binds (fun _ _ _ _ _ _ us hl => match us, hl with | [_, _], _ => rfl), FunOkG F sc_law_draw (fun vs H Q E h => ?_) (fun cdv A outer s H vs Q E hr h => ?_), F.lk⟩
  · obtain ⟨a, c, m, o, F, rfl, _⟩ := h; rfl
  · obtain ⟨a, c, m, o, F, rfl, l, ⟨s0, s1, s2, rfl, g0, g1, g2, g3, g4⟩, hm, h0, h1, q⟩ := h
    refine ⟨_, PSs.nox (pss_cons (ps_if (pt_cmpR op_gt (pe_ix ix_list (pv 0) pe_int (fun _ _ => rfl)) pe_int (nomark _)) (pss_cons (ps_set (i := 2) sc_law_draw.nd rfl (.inl rfl) (pe_op op_mod (pe_ix ix_list (pv 0) pe_int (fun _ _ => rfl)) (pv 1)))
      (pss_cons (ps_asg (pe_op op_fdivW (pe_ix ix_list (pv 0) pe_int (fun _ _ => rfl)) (pv 1)) (pg_sub (pv 0) pe_int set_list))
      (pss_one (ps_ret (pv 2)))))
        pss_nil)
      (pss_cons (ps_asg (pe_op op_add (pe_ix ix_list (pv 0) pe_int (fun _ _ => rfl)) pe_int) (pg_sub (pv 0) pe_int set_list))
      (pss_cons (ps_set (i := 3) sc_law_draw.nd rfl (.inl rfl) (pe_op op_mod (pe_op op_powW (pe_op op_add (pe_ix ix_list (pv 0) pe_int (fun _ _ => rfl)) (pe_op op_mulA pe_int (pe_ix ix_list (pv 0) pe_int (fun _ _ => rfl)))) pe_int) (pe_op op_add (pe_op op_powW pe_int pe_int) pe_int)))
      (pss_cons (ps_set (i := 3) sc_law_draw.nd rfl (.inl rfl) (pe_op op_mod (pe_op op_powW (pe_op op_add (pv 3) (pe_op op_mulA pe_int (pe_ix ix_list (pv 0) pe_int (fun _ _ => rfl)))) pe_int) (pe_op op_add (pe_op op_powW pe_int pe_int) pe_int)))
      (pss_one (ps_ret (pe_op op_mod (pe_op op_fdivW (pv 3) pe_int) (pv 1)))))))), ?_⟩
    rw [show L2.start ["source", "count", "digit", "mixed"] [.ref a, .int c] = [some (.ref a), some (.int c), none, none] from rfl]
    refine Tr.of ?_ l
    repeat walk_at "hz"
    have hc : c.natAbs < 2 ^ 200 := by omega
    refine t_iteD (fun h2 => ?_) fun h2 => ?_
    · repeat walk_at "hz"
      refine t_rI (div_ok 200 (by decide) h0 hc (by decide)) ?_
      repeat walk_at "hz"
      refine t_setL .head rfl ?_
      repeat walk_at "hz"
      exact q _ _ (Int.emod_nonneg _ (by omega)) (Int.emod_lt_of_pos _ h0) ⟨_, _, _, rfl, Int.ediv_nonneg g0 (by omega), g1, g2, g3, by omega⟩
    · repeat walk_at "hz"
      refine t_setL .head rfl ?_
      repeat walk_at "hz"
      refine t_rI (pow_ok 200 (by decide) (by omega) (by decide) (by decide)) ?_
      repeat walk_at "hz"
      refine t_rI (pow_ok 4 (by decide) (by decide) (by decide) (by decide)) ?_
      have e1 : (10 : Int) ^ (36 : Int).toNat = 1000000000000000000000000000000000000 := by decide
      have e2 : (10 : Int) ^ (38 : Int).toNat = 100000000000000000000000000000000000000 := by decide
      rw [e1]
      repeat walk_at "hz"
      generalize hx : (s1 + 900236 * (s2 + 1)) ^ (3 : Int).toNat % (1000000000000000000000000000000000000 + 67) = x
      have b1 : 0 ≤ x := by rw [← hx]; exact Int.emod_nonneg _ (by decide)
      have b2 : x < 1000000000000000000000000000000000000 + 67 := by rw [← hx]; exact Int.emod_lt_of_pos _ (by decide)
      repeat walk_at "hz"
      refine t_rI (pow_ok 200 (by decide) (by omega) (by decide) (by decide)) ?_
      repeat walk_at "hz"
      refine t_rI (pow_ok 4 (by decide) (by decide) (by decide) (by decide)) ?_
      rw [e2]
      repeat walk_at "hz"
      refine t_rI (div_ok 20 (by decide) (by decide) (by decide) (by decide)) ?_
      repeat walk_at "hz"
      exact q _ _ (Int.emod_nonneg _ (by omega)) (Int.emod_lt_of_pos _ h0) ⟨_, _, _, rfl, g0, g1, g2, by omega, by omega⟩
def sp_law_depths : Sp := fun vs H Q _ => ∃ (a : Addr) (most : Int) (m : Nat) (o : HO) (F : Lg), vs = [.ref a, .int most] ∧ Led H ((a, o) :: F) ∧ Src m o ∧ m ≤ 100000000 ∧ 1 ≤ most ∧ most ≤ 200 ∧
  ∀ ns p o', Outline ns → (ns.length : Int) ≤ most → Src (m + 1000) o' → Tr ((p, .lst (ns.map V.int)) :: (a, o') :: F) (fun H => Q (.ref p) H)
theorem use_law_depths {L F : Lg} {Q : VK} {E : XK} {a : Addr} {most : Int} {m : Nat} {o : HO} (hp : Pick a o L F) (hs : Src m o) (hm : m ≤ 100000000) (h0 : 1 ≤ most) (h1 : most ≤ 200)
    (q : ∀ ns p o', Outline ns → (ns.length : Int) ≤ most → Src (m + 1000) o' → Tr ((p, .lst (ns.map V.int)) :: (a, o') :: F) fun H => Q (.ref p) H) : Tr L fun H => sp_law_depths [.ref a, .int most] H Q E :=
  fun H l => ⟨a, most, m, o, F, rfl, l.pick hp, hs, hm, h0, h1, q⟩
theorem ok_law_depths (D : Df K mg "_law_depths" s_law_depths) (B : Blt mg) (k__law_draw : Ok P w K mg base CX0 1 "_law_draw" ["source", "count"] sp_law_draw) : Ok P w K mg base CX0 2 "_law_depths" ["source", "most"] sp_law_depths := by
  obtain ⟨f, fd, hm, F⟩ := D
  refine ⟨f, fd, hm, F.kp, F.binds (fun _ _ _ _ _ _ us hl => match us, hl with | [_, _], _ => rfl), FunOkG F sc_law_depths (fun vs H Q E h => ?_) (fun cdv A outer s H vs Q E hr h => ?_), F.lk⟩
  · obtain ⟨a, c, m, o, F, rfl, _⟩ := h; rfl
  · obtain ⟨a, most, m, o, F, rfl, l, hs, hm, h0, h1, q⟩ := h
    refine ⟨_, PSs.nox (pss_cons (ps_set (i := 2) sc_law_depths.nd rfl (.inl rfl) (pe_callG k__law_draw (hr.mono (by omega)) pas0 (pa_cons (pv 0) (pa_cons pe_int pa_nil))))
      (pss_cons (ps_set (i := 3) sc_law_depths.nd rfl (.inl rfl) (pe_op op_add pe_int (pe_ix ix_list (pe_lst (pa_cons (pe_callG k__law_draw (hr.mono (by omega)) pas0 (pa_cons (pv 0) (pa_cons (pv 1) pa_nil))) (pa_cons (pe_op op_sub (pv 1) pe_int) (pa_cons (pe_callG k__law_draw (hr.mono (by omega)) pas0 (pa_cons (pv 0) (pa_cons (pe_callB (c_min2 rfl) rfl B.min_ boot_min (pa_cons pe_int (pa_cons (pv 1) pa_nil))) pa_nil))) pa_nil)))) (pe_callG k__law_draw (hr.mono (by omega)) pas0 (pa_cons (pv 0) (pa_cons pe_int pa_nil))) (fun _ _ => rfl))))
      (pss_cons (ps_set (i := 4) sc_law_depths.nd rfl (.inl rfl) (pe_lst (pa_cons pe_int pa_nil)))
      (pss_cons (ps_for PassesOwn.never rfl (pi_range1 rfl B.range_ (pa_cons (pe_op op_sub (pv 3) pe_int) pa_nil)) (pg_name (i := 5) sc_law_depths.nd rfl (.inl rfl))
        (pss_cons (ps_set (i := 6) sc_law_depths.nd rfl (.inl rfl) (pe_ix ix_list (pv 4) (pe_un un_neg pe_int) (fun _ _ => rfl)))
      (pss_cons (ps_set (i := 7) sc_law_depths.nd rfl (.inl rfl) (pe_lst (pa_cons (pe_callG k__law_draw (hr.mono (by omega)) pas0 (pa_cons (pv 0) (pa_cons (pe_op op_add (pv 6) pe_int) pa_nil))) (pa_cons (pe_op op_add (pv 6) pe_int) (pa_cons pe_int (pa_cons (pe_callB (c_max2 rfl) rfl B.max_ boot_max (pa_cons pe_int (pa_cons (pe_op op_sub (pe_op op_add (pv 6) pe_int) (pe_callG k__law_draw (hr.mono (by omega)) pas0 (pa_cons (pv 0) (pa_cons pe_int pa_nil)))) pa_nil))) pa_nil))))))
      (pss_one (ps_expr (pe_bm PySem.F.plainAttrs_list PySem.F.slot_list_append PySem.F.type_list_append mt_append (pv 4) (pa_cons (pe_ix ix_list (pv 7) (pv 2) (fun _ _ => rfl)) pa_nil)))))))
      (pss_one (ps_ret (pv 4))))))), ?_⟩
    rw [show L2.start ["source", "most", "style", "size", "found", "step", "last", "next_ones"] [.ref a, .int most] = [some (.ref a), some (.int most), none, none, none, none, none, none] from rfl]
    refine Tr.of ?_ l
    repeat walk_at "hz"
    refine use_law_draw (by walk_at "pk") hs (by omega) (by omega) (by omega) fun style o1 sl sh hs => ?_
    repeat walk_at "hz"
    refine use_law_draw (by walk_at "pk") hs (by omega) (by omega) (by omega) fun d1 o2 d1l d1h hs => ?_
    repeat walk_at "hz"
    refine use_law_draw (by walk_at "pk") hs (by omega) (by omega) (by omega) fun d2 o3 d2l d2h hs => ?_
    repeat walk_at "hz"
    refine use_law_draw (by walk_at "pk") hs (by omega) (by omega) (by omega) fun d3 o4 d3l d3h hs => ?_
    rename_i p1
    obtain ⟨z, hz, zm, -⟩ := at_mem (ns := [d1, most - 1, d2]) d3l (by simpa using d3h)
    have zb : 0 ≤ z ∧ z < most := by
      simp only [List.mem_cons, List.not_mem_nil, or_false] at zm
      omega
    refine t_ixL (.tail .head) hz ?_
    repeat walk_at "hz"
    rename_i p
    have e1 : (1 + z - 1).toNat = z.toNat := by omega
    rw [e1]
    refine t_forK wk_range (fun i (y : List Int × HO × Option V × Option V × Option V) => [some (.ref a), some (.int most), some (.int style), some (.int (1 + z)), some (.ref p), y.2.2.1, y.2.2.2.1, y.2.2.2.2])
      (fun i y => (p, .lst (y.1.map V.int)) :: (a, y.2.1) :: F) (fun i y => y.1.length = i + 1 ∧ chainI (-1) y.1 ∧ Src (m + 4 + 2 * i) y.2.1) ⟨([0], o4, none, none, none), ⟨rfl, ⟨by decide, by decide, trivial⟩, hs⟩, rfl, by walk_at "sb"⟩ (fun _ _ _ => trivial) ?_ ?_
    · rintro i ⟨ns, o, x1, x2, x3⟩ v L' hi ⟨hl, hc, hs⟩ ⟨rfl, rfl⟩
      dsimp only at hl hc hs ⊢
      rw [List.nil_append]
      have lb := lastD_bound (-1) ns hc (by omega)
      repeat walk_at "hz"
      refine t_ixL .head (at_lastD (-1) (by omega)) ?_
      repeat walk_at "hz"
      refine use_law_draw (by walk_at "pk") hs (by omega) (by omega) (by omega) fun e1 o5 e1l e1h hs => ?_
      repeat walk_at "hz"
      refine use_law_draw (by walk_at "pk") hs (by omega) (by omega) (by omega) fun e2 o6 e2l e2h hs => ?_
      repeat walk_at "hz"
      obtain ⟨n, hn, nm, -⟩ := at_mem (ns := [e1, lastD (-1) ns + 1, 0, max 0 (lastD (-1) ns + 1 - e2)]) sl (by simpa using sh)
      have nb : 0 ≤ n ∧ n ≤ lastD (-1) ns + 1 := by
        simp only [List.mem_cons, List.not_mem_nil, or_false] at nm
        omega
      rename_i p3
      refine t_ixL .head hn ?_
      repeat walk_at "hz"
      refine t_pst (ns ++ [n], o6, some (.int (0 + i)), some (.int (lastD (-1) ns)), some (.ref p3)) ⟨by simp [hl], (chainI_append _ _ _).mpr ⟨hc, nb.1, nb.2, trivial⟩, hs.le (by omega)⟩ rfl (by walk_at "sb")
    · rintro ⟨ns, o, x1, x2, x3⟩ ⟨hl, hc, hs⟩
      dsimp only at hl hc hs ⊢
      repeat walk_at "hz"
      exact q ns p o (outline_iff.mpr ⟨by omega, by omega, hc⟩) (by omega) (hs.le (by omega))

/-! ### the strict comparison, of equal data -/
def sp_equal (n : Nat) : Sp := fun vs H Q _ => ∃ (x y : V) (d : PyData) (L : Lg), vs = [x, y] ∧ Led H L ∧ Dt L x d ∧ Dt L y d ∧ d.depth ≤ n ∧ wide d = true ∧ Tr L (fun H => Q (.bl true) H)
theorem use_equal {n : Nat} {L : Lg} {Q : VK} {E : XK} {x y : V} {d : PyData} (h1 : Dt L x d) (h2 : Dt L y d) (hd : d.depth ≤ n) (hw : wide d = true) (q : Tr L fun H => Q (.bl true) H) : Tr L fun H => sp_equal n [x, y] H Q E :=
  fun H l => ⟨x, y, d, L, rfl, l, h1, h2, hd, hw, q⟩
def sp_equalP : Nat → Sp
  | 0 => spNo
  | n + 1 => sp_equal n
theorem use_equalP {n : Nat} {L : Lg} {Q : VK} {E : XK} {x y : V} {d : PyData} (h1 : Dt L x d) (h2 : Dt L y d) (hd : d.depth < n) (hw : wide d = true) (q : Tr L fun H => Q (.bl true) H) : Tr L fun H => sp_equalP n [x, y] H Q E := by
  cases n with
  | zero => omega
  | succ n => exact use_equal (E := E) h1 h2 (by omega) hw q
theorem equal_step (D : Df K mg "_law_equal" s_law_equal) (B : Blt mg) (n : Nat) (k__law_equal : Ok P w K mg base CX0 n "_law_equal" ["result", "expected"] (sp_equalP n)) : Ok P w K mg base CX0 (n + 1) "_law_equal" ["result", "expected"] (sp_equal n) := by
  obtain ⟨f, fd, hm, F⟩ := D
  refine ⟨f, fd, hm, F.kp, F.binds (fun _ _ _ _ _ _ us hl => match us, hl with | [_, _], _ => rfl), FunOkG F sc_law_equal (fun vs H Q E h => ?_) (fun cdv A outer s H vs Q E hr h => ?_), F.lk⟩
  · obtain ⟨x, y, d, L, rfl, _⟩ := h; rfl
  · obtain ⟨x, y, d, L, rfl, l, h1, h2, hd, hw, q⟩ := h
    refine ⟨_, PSs.nox (pss_cons (ps_if (pt_val (pe_callB c_isT rfl B.isinstance_ boot_isinstance (pa_cons (pv 1) (pa_cons (pe_tup (pa_cons (pe_ty B.list_ boot_list) (pa_cons (pe_ty B.tuple_ boot_tuple) pa_nil))) pa_nil)))) (pss_cons (ps_if (PW.pt (pw_or (pt_not (pt_val (pe_callB c_isT rfl B.isinstance_ boot_isinstance (pa_cons (pv 0) (pa_cons (pe_tup (pa_cons (pe_ty B.list_ boot_list) (pa_cons (pe_ty B.tuple_ boot_tuple) pa_nil))) pa_nil))))) (pw_or1 (pt_cmpR op_ne (pe_callB c_len rfl B.len_ boot_len (pa_cons (pv 0) pa_nil)) (pe_callB c_len rfl B.len_ boot_len (pa_cons (pv 1) pa_nil)) (nomark _))))) (pss_one (ps_ret pe_bl))
        pss_nil)
      (pss_cons (ps_if (pt_cmpR op_ne (pe_callB c_is rfl B.isinstance_ boot_isinstance (pa_cons (pv 0) (pa_cons (pe_ty B.list_ boot_list) pa_nil))) (pe_callB c_is rfl B.isinstance_ boot_isinstance (pa_cons (pv 1) (pa_cons (pe_ty B.list_ boot_list) pa_nil))) (nomark _)) (pss_one (ps_ret pe_bl))
        pss_nil)
      (pss_one (ps_ret (pe_callB (cr_all rfl) rfl B.all_ boot_all (pa_cons (pe_lc (own := [("one", 2), ("other", 3)]) (g := gTup _ 2 (gCons (gName 2) (gCons (gName 3) (gNil)))) (by rfl) sc_law_equal.nd (pi_zipA (by rfl) B.zip_ (pa_cons (pv 0) (pa_cons (pv 1) pa_nil))) (blkOk_by (own := [("one", 2), ("other", 3)]) (N := ["result", "expected", "one", "other"]) (sc := defScope s_law_equal) (by decide +kernel)) (fun _ _ _ _ _ => (pg_tup rfl (pgs_cons (pg_name (i := 2) sc_law_equal.nd rfl (.inl rfl)) (pgs_cons (pg_name (i := 3) sc_law_equal.nd rfl (.inl rfl)) pgs_nil)))) (fun _ _ _ _ _ => pts_nil) (fun _ _ _ _ _ => (pe_callG k__law_equal (hr.mono (by omega)) pas0 (pa_cons (pv 2) (pa_cons (pv 3) pa_nil))))) pa_nil))))))
        pss_nil)
      (pss_cons (ps_if (PW.pt (pw_or (pt_val (pe_callB c_isT rfl B.isinstance_ boot_isinstance (pa_cons (pv 1) (pa_cons (pe_tup (pa_cons (pe_ty B.bool_ boot_bool) (pa_cons (pe_ty B.str_ boot_str) pa_nil))) pa_nil)))) (pw_or1 (pt_cmpR op_isN1 (pv 1) pe_non (nomark _))))) (pss_one (ps_ret (pe_and (pe_cmpR op_eq (pe_callB c_is rfl B.isinstance_ boot_isinstance (pa_cons (pv 0) (pa_cons (pe_ty B.bool_ boot_bool) pa_nil))) (pe_callB c_is rfl B.isinstance_ boot_isinstance (pa_cons (pv 1) (pa_cons (pe_ty B.bool_ boot_bool) pa_nil))) (nomark _)) (pe_one (pe_cmpR op_eq (pv 0) (pv 1) (nomark _))))))
        pss_nil)
      (pss_one (ps_ret (pe_and (pe_callB c_is rfl B.isinstance_ boot_isinstance (pa_cons (pv 0) (pa_cons (pe_ty B.int_ boot_int) pa_nil))) (pe_and (pe_not (pe_callB c_is rfl B.isinstance_ boot_isinstance (pa_cons (pv 0) (pa_cons (pe_ty B.bool_ boot_bool) pa_nil)))) (pe_one (pe_cmpR op_eq (pv 0) (pv 1) (nomark _))))))))), ?_⟩
    rw [show L2.start ["result", "expected", "one", "other"] [x, y] = [some x, some y, none, none] from rfl]
    refine Tr.of (L := L) ?_ l
    repeat walk_at "hz"
    rename_i tp1
    have up : ∀ {M : Lg} {z : V} {T : String} (p : Addr × HO), HasTy M z T → HasTy (p :: M) z T := fun p h => h.mono fun _ h => .tail _ h
    cases h2 with
    | @lst b ys ds mb h2 =>
      cases h1 with
      | @lst a xs _ ma h1 =>
        rw [wide, Bool.and_eq_true, decide_eq_true_eq] at hw
        obtain ⟨Ra, pa⟩ := Pick.of_mem ma
        obtain ⟨Rb, pb⟩ := Pick.of_mem mb
        have la := h1.len
        have lb := h2.len
        refine t_isTs (Cs := ["list", "tuple"]) .head (up _ (.lst mb)) (by decide) ?_
        repeat walk_at "hz"
        refine t_isTs (Cs := ["list", "tuple"]) .head (up _ (up _ (.lst ma))) (by decide) ?_
        repeat walk_at "hz"
        refine t_is (up _ (up _ (.lst ma))) (by decide) ?_
        repeat walk_at "hz"
        refine t_is (up _ (up _ (.lst mb))) (by decide) ?_
        repeat walk_at "hz"
        try refine t_itZL (.tail (.tail pa)) (.tail (.tail pb)) ?_
        refine t_lcMap wk_zip (by rfl) ((List.replicate ds.length true).map V.bl) (by simp [la, lb]) (fun x => ⟨⟨_, .tail (.tail (.tail pa))⟩, ⟨_, .tail (.tail (.tail pb))⟩⟩) ?_ ?_
        · rintro D i v L' hi ⟨T, x, y, rfl, hx, hy, rfl⟩
          obtain ⟨d1, e1, hx1⟩ := h1.get hx
          obtain ⟨d2, e2, hy1⟩ := h2.get hy
          obtain rfl : d1 = d2 := Option.some.inj (e1.symm.trans e2)
          rw [List.cons_append, List.nil_append]
          repeat walk_at "hz"
          have dm := depthAll_le (List.mem_of_getElem? e1)
          have dd : (PyData.list ds).depth = PyData.depthAll ds + 1 := by rw [PyData.depth]
          refine use_equalP (hx1.mono fun _ h => by simp [h]) (hy1.mono fun _ h => by simp [h]) (by omega) (wideAll_mem hw.2 (List.mem_of_getElem? e1)) ?_
          refine t_lcMp (by walk_at "pk") ?_ (by rw [List.length_map, List.length_replicate]; exact Nat.le_trans hw.1 (by decide)) (by walk_at "sb")
          rw [List.map_replicate, List.getElem?_replicate, if_pos (by rw [← la]; exact (List.getElem?_eq_some_iff.mp hx).1)]
        · intro D
          refine t_all .head ?_
          rw [show (List.replicate ds.length true).all id = true by simp]
          exact q.sub (by walk_at "sb")
    | @tup b ys ds mb h2 =>
      cases h1 with
      | @tup a xs _ ma h1 =>
        rw [wide, Bool.and_eq_true, decide_eq_true_eq] at hw
        obtain ⟨Ra, pa⟩ := Pick.of_mem ma
        obtain ⟨Rb, pb⟩ := Pick.of_mem mb
        have la := h1.len
        have lb := h2.len
        refine t_isTs (Cs := ["list", "tuple"]) .head (up _ (.tup mb)) (by decide) ?_
        repeat walk_at "hz"
        refine t_isTs (Cs := ["list", "tuple"]) .head (up _ (up _ (.tup ma))) (by decide) ?_
        repeat walk_at "hz"
        refine t_is (up _ (up _ (.tup ma))) (by decide) ?_
        repeat walk_at "hz"
        refine t_is (up _ (up _ (.tup mb))) (by decide) ?_
        repeat walk_at "hz"
        refine t_itZT (.tail (.tail pa)) (.tail (.tail pb)) ?_
        refine t_lcMap wk_zipT (by rfl) ((List.replicate ds.length true).map V.bl) (by simp [la, lb]) (fun x => ⟨⟨_, .tail (.tail (.tail pa))⟩, ⟨_, .tail (.tail (.tail pb))⟩⟩) ?_ ?_
        · rintro D i v L' hi ⟨T, x, y, rfl, hx, hy, rfl⟩
          obtain ⟨d1, e1, hx1⟩ := h1.get hx
          obtain ⟨d2, e2, hy1⟩ := h2.get hy
          obtain rfl : d1 = d2 := Option.some.inj (e1.symm.trans e2)
          rw [List.cons_append, List.nil_append]
          repeat walk_at "hz"
          have dm := depthAll_le (List.mem_of_getElem? e1)
          have dd : (PyData.tuple ds).depth = PyData.depthAll ds + 1 := by rw [PyData.depth]
          refine use_equalP (hx1.mono fun _ h => by simp [h]) (hy1.mono fun _ h => by simp [h]) (by omega) (wideAll_mem hw.2 (List.mem_of_getElem? e1)) ?_
          refine t_lcMp (by walk_at "pk") ?_ (by rw [List.length_map, List.length_replicate]; exact Nat.le_trans hw.1 (by decide)) (by walk_at "sb")
          rw [List.map_replicate, List.getElem?_replicate, if_pos (by rw [← la]; exact (List.getElem?_eq_some_iff.mp hx).1)]
        · intro D
          refine t_all .head ?_
          rw [show (List.replicate ds.length true).all id = true by simp]
          exact q.sub (by walk_at "sb")
    | non =>
      cases h1
      refine t_isTs (Cs := ["list", "tuple"]) .head .non (by decide) ?_
      repeat walk_at "hz"
      refine t_isTs (Cs := ["bool", "str"]) .head .non (by decide) ?_
      repeat walk_at "hz"
      refine t_is .non (by decide) ?_
      repeat walk_at "hz"
      refine t_is .non (by decide) ?_
      repeat walk_at "hz"
      refine t_eq rfl ?_
      exact q.sub (by walk_at "sb")
    | bl b =>
      cases h1
      refine t_isTs (Cs := ["list", "tuple"]) .head (.bl b) (by decide) ?_
      repeat walk_at "hz"
      refine t_isTs (Cs := ["bool", "str"]) .head (.bl b) (by decide) ?_
      repeat walk_at "hz"
      refine t_is (.bl b) (by decide) ?_
      repeat walk_at "hz"
      refine t_is (.bl b) (by decide) ?_
      repeat walk_at "hz"
      rw [beq_self_eq_true]
      exact q.sub (by walk_at "sb")
    | str z =>
      cases h1
      refine t_isTs (Cs := ["list", "tuple"]) .head (.str z) (by decide) ?_
      repeat walk_at "hz"
      refine t_isTs (Cs := ["bool", "str"]) .head (.str z) (by decide) ?_
      repeat walk_at "hz"
      refine t_is (.str z) (by decide) ?_
      repeat walk_at "hz"
      refine t_is (.str z) (by decide) ?_
      repeat walk_at "hz"
      rw [decide_eq_true rfl]
      exact q.sub (by walk_at "sb")
    | int i =>
      cases h1
      refine t_isTs (Cs := ["list", "tuple"]) .head (.int i) (by decide) ?_
      repeat walk_at "hz"
      refine t_isTs (Cs := ["bool", "str"]) .head (.int i) (by decide) ?_
      repeat walk_at "hz"
      refine t_is (.int i) (by decide) ?_
      repeat walk_at "hz"
      refine t_is (.int i) (by decide) ?_
      repeat walk_at "hz"
      rw [decide_eq_true rfl]
      exact q.sub (by walk_at "sb")
theorem okn_law_equal (D : Df K mg "_law_equal" s_law_equal) (B : Blt mg) : ∀ n : Nat, Ok P w K mg base CX0 (n + 1) "_law_equal" ["result", "expected"] (sp_equal n)
  | 0 => equal_step D B 0 (okNo D fun fd f F => F.binds (fun _ _ _ _ _ _ us hl => match us, hl with | [_, _], _ => rfl))
  | n + 1 => equal_step D B (n + 1) (okn_law_equal D B n)
theorem ok_law_equal (D : Df K mg "_law_equal" s_law_equal) (B : Blt mg) : Ok P w K mg base CX0 2 "_law_equal" ["result", "expected"] (sp_equal 1) := okn_law_equal D B 1

/-! ### headings, by the ints -/
def hbk (f : Int → Int) : Nat → Int → List Int
  | 0, _ => []
  | k + 1, d => if f (k : Nat) < d then ((k : Nat) : Int) :: hbk f k (f (k : Nat)) else hbk f k d
/-- the last place below k where f is e -/
def lastW (f : Int → Int) (e : Int) : Nat → Int
  | 0 => -1
  | k + 1 => if f (k : Nat) = e then ((k : Nat) : Int) else lastW f e k
structure Stp (f : Int → Int) (n : Nat) : Prop where
  zero : f 0 = 0
  nn : ∀ i : Nat, i < n → 0 ≤ f i
  up : ∀ i : Nat, i + 1 < n → f ((i + 1 : Nat) : Int) ≤ f i + 1
theorem hbk_eq {f : Int → Int} {n : Nat} (S : Stp f n) : ∀ (k : Nat) (d : Int), k ≤ n → 0 ≤ d → (k = 0 → d = 0) → (∀ j : Nat, k = j + 1 → d ≤ f j + 1) →
    hbk f k d = ((List.range d.toNat).map fun e => lastW f (e : Nat) k).reverse
  | 0, d, _, _, h0, _ => by rw [h0 rfl]; rfl
  | k + 1, d, hk, hd, _, h1 => by
    have b := h1 k rfl
    have nn := S.nn k (by omega)
    have up : ∀ j : Nat, k = j + 1 → f k ≤ f j + 1 := fun j e => by subst e; exact S.up j (by omega)
    have z : k = 0 → f k = 0 := fun e => by subst e; exact S.zero
    unfold hbk
    by_cases h : f k < d
    · rw [if_pos h, hbk_eq S k (f k) (by omega) nn z up]
      obtain rfl : d = f k + 1 := by omega
      rw [show (f k + 1).toNat = (f k).toNat + 1 by omega, List.range_succ, List.map_append, List.reverse_append]
      congr 1
      · simp only [List.map_cons, List.map_nil, List.reverse_cons, List.reverse_nil, List.nil_append, List.cons.injEq, and_true]
        unfold lastW
        rw [if_pos (by omega)]
      · congr 1
        refine List.map_congr_left fun e he => ?_
        have := List.mem_range.mp he
        rw [show lastW f e (k + 1) = lastW f e k by rw [lastW, if_neg (by omega)]]
    · rw [if_neg h, hbk_eq S k d (by omega) hd (fun e => by have := z e; omega) fun j e => by have := up j e; omega]
      congr 1
      refine List.map_congr_left fun e he => ?_
      have := List.mem_range.mp he
      rw [show lastW f e (k + 1) = lastW f e k by rw [lastW, if_neg (by omega)]]
theorem hbk_len (f : Int → Int) : ∀ (k : Nat) (d : Int), (hbk f k d).length ≤ k
  | 0, _ => Nat.le_refl 0
  | k + 1, d => by
    unfold hbk
    split
    · have := hbk_len f k (f k)
      rw [List.length_cons]; omega
    · have := hbk_len f k d
      omega
/-- the headings of the line i -/
def hdI (ns : List Int) (i : Int) : List Int := (hbk (atD ns) i.toNat (atD ns i)).reverse
theorem hdI_len (ns : List Int) (i : Int) : (hdI ns i).length ≤ i.toNat := by unfold hdI; rw [List.length_reverse]; exact hbk_len _ _ _
theorem chainI_stp : ∀ (b : Int) (ns : List Int), chainI b ns → ∀ i : Nat, i + 1 < ns.length → atD ns ((i + 1 : Nat) : Int) ≤ atD ns (i : Nat) + 1
  | b, d :: e :: r, h, 0, _ => by
    show e ≤ d + 1
    exact h.2.2.2.1
  | b, d :: r, h, i + 1, hi => by
    have := chainI_stp d r h.2.2 i (by simpa using hi)
    exact this
theorem Outline.at {ns : List Int} (h : Outline ns) {i : Int} (h0 : 0 ≤ i) (h1 : i < ns.length) : 0 ≤ atD ns i ∧ atD ns i ≤ i := by
  have := h.bound (atD_get h0 h1)
  omega
theorem Outline.stp {ns : List Int} (h : Outline ns) : Stp (atD ns) ns.length where
  zero := by have := h.at (i := 0) (by omega) (by have := h.len; omega); omega
  nn := fun i hi => (h.at (i := (i : Nat)) (by omega) (by omega)).1
  up := chainI_stp _ _ h.chain
theorem hdI_eq {ns : List Int} (h : Outline ns) {i : Int} (h0 : 0 ≤ i) (h1 : i < ns.length) : hdI ns i = (List.range (atD ns i).toNat).map fun e => lastW (atD ns) (e : Nat) i.toNat := by
  have a := h.at h0 h1
  have S := h.stp
  unfold hdI
  rw [hbk_eq S i.toNat (atD ns i) (by omega) a.1 (fun e => by omega) fun j e => by
    have := S.up j (by omega)
    rw [← e, Int.toNat_of_nonneg h0] at this
    exact this]
  rw [List.reverse_reverse]
/-! ### the last line of a section -/
structure SecEnd (f : Int → Int) (n : Int) (p e : Int) : Prop where
  lo : p ≤ e
  hi : e < n
  deep : ∀ k, p < k → k ≤ e → f p < f k
  stop : e + 1 < n → f (e + 1) ≤ f p
theorem SecEnd.uniq {f : Int → Int} {n p e e' : Int} (h : SecEnd f n p e) (h' : SecEnd f n p e') : e = e' := by
  have key : ∀ {e e' : Int}, SecEnd f n p e → SecEnd f n p e' → ¬ e < e' := fun {e e'} h h' lt => by
    have a := h.stop (by have := h'.hi; omega)
    have b := h'.deep (e + 1) (by have := h.lo; omega) (by omega)
    omega
  have a := key h h'
  have b := key h' h
  omega
/-- the children between the line and the end of its section -/
def chI (ns : List Int) (p e : Int) : List Int := (rgI (p + 1) (e + 1)).filter fun k => decide (atD ns k = atD ns p + 1)
theorem fl_rg (f : Int → Bool) (a b : Int) : fl (fun i => f (a + (i : Nat))) (fun i => a + (i : Nat)) (b - a).toNat = (rgI a b).filter f := by
  unfold fl rgI
  rw [List.filter_map]
  rfl

/-! ### check_line, headings_of, headings, section, children -/
def sp_check_line  : Sp := fun vs H Q E => ∃ (a : Addr) (ns : List Int) (i : Int) (L : Lg), vs = [.ref a, .int i] ∧ Led H (L) ∧ ((a, .lst (ns.map V.int)) ∈ L) ∧ (0 ≤ i) ∧ (i < ns.length) ∧ Tr (L) (fun H => Q (.non) H)
theorem use_check_line {L : Lg} {Q : VK} {E : XK} {a : Addr} {ns : List Int} {i : Int} (hm : (a, .lst (ns.map V.int)) ∈ L) (h0 : 0 ≤ i) (h1 : i < ns.length) (q : Tr (L) (fun H => Q (.non) H)) : Tr L fun H => sp_check_line [.ref a, .int i] H Q E :=
  fun H l => ⟨a, ns, i, L, rfl, l, hm, h0, h1, q⟩

theorem ok_check_line (D : Df K mg "check_line" s_check_line) (B : Blt mg) (k_is_integer : Ok P w K mg base CX0 1 "is_integer" ["value"] sp_is_integer) : Ok P w K mg base CX0 2 "check_line" ["outline", "line"] sp_check_line := by
  obtain ⟨f, fd, hm, F⟩ := D
  refine ⟨f, fd, hm, F.kp, F.binds (fun _ _ _ _ _ _ us hl => match us, hl with | [_, _], _ => rfl), FunOkG F sc_check_line (fun vs H Q E h => ?_) (fun cdv A outer s H vs Q E hr h => ?_), F.lk⟩
  · obtain ⟨_, _, _, _, rfl, _⟩ := h; rfl
  obtain ⟨a, ns, i, L, rfl, l, hm, h0, h1, q⟩ := h
  refine ⟨_, PSs.nox (pss_one (ps_if (PW.pt (pw_or (pt_not (pt_val (pe_callG k_is_integer (hr.mono (by omega)) pas0 (pa_cons (pv 1) pa_nil)))) (pw_or1 (pt_not (pt_chain op_le op_lt pe_int (pv 1) (pe_callB c_len rfl B.len_ boot_len (pa_cons (pv 0) pa_nil))))))) pss_never
        pss_nil)), ?_⟩
  rw [show L2.start ["outline", "line"] [.ref a, .int i] = [some (.ref a), some (.int i)] from rfl]
  refine Tr.of ?_ l
  obtain ⟨R_hm, P_hm⟩ := Pick.of_mem hm
  repeat walk_at "hz"
  refine use_is_integer (.int i) ?_
  obtain ⟨R, hp⟩ := Pick.of_mem hm
  repeat walk_at "hz"
  exact q
def sp_headings_of  : Sp := fun vs H Q E => ∃ (a : Addr) (ns : List Int) (i : Int) (L : Lg), vs = [.ref a, .int i] ∧ Led H (L) ∧ ((a, .lst (ns.map V.int)) ∈ L) ∧ (0 ≤ i) ∧ (i < ns.length) ∧ (ns.length ≤ 1000) ∧ ∀ (p : Addr), Tr ((p, .lst ((hdI ns i).map V.int)) :: L) (fun H => Q (.ref p) H)
theorem use_headings_of {L : Lg} {Q : VK} {E : XK} {a : Addr} {ns : List Int} {i : Int} (hm : (a, .lst (ns.map V.int)) ∈ L) (h0 : 0 ≤ i) (h1 : i < ns.length) (hz : ns.length ≤ 1000) (q : ∀ (p : Addr), Tr ((p, .lst ((hdI ns i).map V.int)) :: L) (fun H => Q (.ref p) H)) : Tr L fun H => sp_headings_of [.ref a, .int i] H Q E :=
  fun H l => ⟨a, ns, i, L, rfl, l, hm, h0, h1, hz, q⟩

theorem ok_headings_of (D : Df K mg "headings_of" s_headings_of) (B : Blt mg) : Ok P w K mg base CX0 1 "headings_of" ["outline", "line"] sp_headings_of := by
  obtain ⟨f, fd, hm, F⟩ := D
  refine ⟨f, fd, hm, F.kp, F.binds (fun _ _ _ _ _ _ us hl => match us, hl with | [_, _], _ => rfl), FunOkG F sc_headings_of (fun vs H Q E h => ?_) (fun cdv A outer s H vs Q E hr h => ?_), F.lk⟩
  · obtain ⟨_, _, _, _, rfl, _⟩ := h; rfl
  obtain ⟨a, ns, i, L, rfl, l, hm, h0, h1, hz, q⟩ := h
  refine ⟨_, PSs.nox (pss_cons (ps_set (i := 2) sc_headings_of.nd rfl (.inl rfl) (pe_lst pa_nil))
      (pss_cons (ps_set (i := 3) sc_headings_of.nd rfl (.inl rfl) (pe_ix ix_list (pv 0) (pv 1) (fun _ _ => rfl)))
      (pss_cons (ps_for PassesOwn.never rfl (pi_range3 rfl B.range_ (pa_cons (pe_op op_sub (pv 1) pe_int) (pa_cons (pe_un un_neg pe_int) (pa_cons (pe_un un_neg pe_int) pa_nil)))) (pg_name (i := 4) sc_headings_of.nd rfl (.inl rfl))
        (pss_one (ps_if (pt_cmpR op_lt (pe_ix ix_list (pv 0) (pv 4) (fun _ _ => rfl)) (pv 3) (nomark _)) (pss_cons (ps_set (i := 3) sc_headings_of.nd rfl (.inl rfl) (pe_ix ix_list (pv 0) (pv 4) (fun _ _ => rfl)))
      (pss_one (ps_expr (pe_bm PySem.F.plainAttrs_list PySem.F.slot_list_append PySem.F.type_list_append mt_append (pv 2) (pa_cons (pv 4) pa_nil)))))
        pss_nil)))
      (pss_one (ps_ret (pe_revL (pv 2))))))), ?_⟩
  rw [show L2.start ["outline", "line", "found", "depth", "other"] [.ref a, .int i] = [some (.ref a), some (.int i), none, none, none] from rfl]
  refine Tr.of ?_ l
  obtain ⟨R_hm, P_hm⟩ := Pick.of_mem hm
  repeat walk_at "hz"
  obtain ⟨R, hp⟩ := Pick.of_mem hm
  repeat walk_at "hz"
  rename_i p
  refine t_itR3 (n := i.toNat) (by have := RgC.neg (i := i - 1) (j := -1) (by omega) (by omega) (by omega) (by omega); rwa [show (i - 1 - -1).toNat = i.toNat by omega] at this) ?_
  refine t_forK wk_range3 (fun t ((acc, d, j4) : (List Int) × Int × Option V) => [some (.ref a), some (.int i), some (.ref p), some (.int d), j4]) (fun t ((acc, d, j4) : (List Int) × Int × Option V) => (p, .lst (acc.map V.int)) :: L) (fun t ((acc, d, j4) : (List Int) × Int × Option V) => acc.length ≤ t ∧ acc ++ hbk (atD ns) (i.toNat - t) d = hbk (atD ns) i.toNat (atD ns i)) ⟨([], atD ns i, _), ⟨by simp, by simp⟩, rfl, (by walk_at "sb")⟩ (fun _ _ _ => trivial) ?_ ?_
  · rintro t ⟨acc, d, j4⟩ v L' ht ⟨hl, he⟩ ⟨rfl, rfl⟩
    dsimp only at hl he ⊢
    rw [List.nil_append]
    obtain ⟨k, ek⟩ : ∃ k, i.toNat - t = k + 1 := ⟨i.toNat - t - 1, by omega⟩
    rw [ek, hbk] at he
    have e1 : i - 1 + (t : Int) * -1 = (k : Nat) := by omega
    rw [e1]
    repeat walk_at "hz"
    refine t_iteD (fun h2 => ?_) fun h2 => ?_
    · repeat walk_at "hz"
      refine t_pst (acc ++ [(k : Int)], atD ns (k : Nat), _) ⟨(by (try dsimp only); (try simp only [List.length_append, List.length_cons, List.length_nil, List.length_map, List.length_singleton]); omega), ?_⟩ rfl (by walk_at "sb")
      rw [if_pos h2] at he
      rw [List.append_assoc, show i.toNat - (t + 1) = k by omega]
      exact he
    · repeat walk_at "hz"
      refine t_pst (acc, d, _) ⟨(by (try dsimp only); (try simp only [List.length_append, List.length_cons, List.length_nil, List.length_map, List.length_singleton]); omega), ?_⟩ rfl (by walk_at "sb")
      rw [if_neg h2] at he
      rw [show i.toNat - (t + 1) = k by omega]
      exact he
  · rintro ⟨acc, d, j4⟩ ⟨hl, he⟩
    dsimp only at hl he ⊢
    rw [Nat.sub_self, hbk, List.append_nil] at he
    repeat walk_at "hz"
    rw [show hdI ns i = acc.reverse by unfold hdI; rw [← he]] at q
    exact (q _).sub (by walk_at "sb")
def sp_headings  : Sp := fun vs H Q E => ∃ (a : Addr) (ns : List Int) (i : Int) (L : Lg), vs = [.ref a, .int i] ∧ Led H (L) ∧ ((a, .lst (ns.map V.int)) ∈ L) ∧ (Outline ns) ∧ (0 ≤ i) ∧ (i < ns.length) ∧ ∀ (p : Addr), Tr ((p, .lst ((hdI ns i).map V.int)) :: L) (fun H => Q (.ref p) H)
theorem use_headings {L : Lg} {Q : VK} {E : XK} {a : Addr} {ns : List Int} {i : Int} (hm : (a, .lst (ns.map V.int)) ∈ L) (ho : Outline ns) (h0 : 0 ≤ i) (h1 : i < ns.length) (q : ∀ (p : Addr), Tr ((p, .lst ((hdI ns i).map V.int)) :: L) (fun H => Q (.ref p) H)) : Tr L fun H => sp_headings [.ref a, .int i] H Q E :=
  fun H l => ⟨a, ns, i, L, rfl, l, hm, ho, h0, h1, q⟩

theorem ok_headings (D : Df K mg "headings" s_headings) (B : Blt mg) (k_check_outline : Ok P w K mg base CX0 3 "check_outline" ["outline"] sp_check_outline) (k_check_line : Ok P w K mg base CX0 2 "check_line" ["outline", "line"] sp_check_line) (k_headings_of : Ok P w K mg base CX0 1 "headings_of" ["outline", "line"] sp_headings_of) : Ok P w K mg base CX0 4 "headings" ["outline", "line"] sp_headings := by
  obtain ⟨f, fd, hm, F⟩ := D
  refine ⟨f, fd, hm, F.kp, F.binds (fun _ _ _ _ _ _ us hl => match us, hl with | [_, _], _ => rfl), FunOkG F sc_headings (fun vs H Q E h => ?_) (fun cdv A outer s H vs Q E hr h => ?_), F.lk⟩
  · obtain ⟨_, _, _, _, rfl, _⟩ := h; rfl
  obtain ⟨a, ns, i, L, rfl, l, hm, ho, h0, h1, q⟩ := h
  refine ⟨_, PSs.nox (pss_cons (ps_expr (pe_callG k_check_outline (hr.mono (by omega)) pas0 (pa_cons (pv 0) pa_nil)))
      (pss_cons (ps_expr (pe_callG k_check_line (hr.mono (by omega)) pas0 (pa_cons (pv 0) (pa_cons (pv 1) pa_nil))))
      (pss_one (ps_ret (pe_callG k_headings_of (hr.mono (by omega)) pas0 (pa_cons (pv 0) (pa_cons (pv 1) pa_nil))))))), ?_⟩
  rw [show L2.start ["outline", "line"] [.ref a, .int i] = [some (.ref a), some (.int i)] from rfl]
  refine Tr.of ?_ l
  obtain ⟨R_hm, P_hm⟩ := Pick.of_mem hm
  repeat walk_at "hz"
  have hl := ho.len
  refine use_check_outline hm ho ?_
  repeat walk_at "hz"
  refine use_check_line hm h0 h1 ?_
  repeat walk_at "hz"
  exact use_headings_of hm h0 h1 (by omega) q
def sp_law_lines  : Sp := fun vs H Q E => ∃ (a b : Addr) (ns : List Int) (m : Nat) (o : HO) (L : Lg), vs = [.ref a, .ref b] ∧ Led H ((a, o) :: L) ∧ ((b, .lst (ns.map V.int)) ∈ L) ∧ (Src m o) ∧ (m ≤ 100000000) ∧ (1 ≤ ns.length) ∧ (ns.length ≤ 200) ∧ ∀ (p : Addr) (ks : List Int) (o' : HO), (∀ k ∈ ks, 0 ≤ k ∧ k < ns.length) → (ks.length ≤ 25) → (Src (m + 20) o') → Tr ((p, .lst (ks.map V.int)) :: (a, o') :: L) (fun H => Q (.ref p) H)
theorem use_law_lines {L0  L : Lg} {Q : VK} {E : XK} {a b : Addr} {ns : List Int} {m : Nat} {o : HO} (hp0 : Pick (a) (o) L0 L) (hm : (b, .lst (ns.map V.int)) ∈ L) (hs : Src m o) (hn : m ≤ 100000000) (h0 : 1 ≤ ns.length) (h1 : ns.length ≤ 200) (q : ∀ (p : Addr) (ks : List Int) (o' : HO), (∀ k ∈ ks, 0 ≤ k ∧ k < ns.length) → (ks.length ≤ 25) → (Src (m + 20) o') → Tr ((p, .lst (ks.map V.int)) :: (a, o') :: L) (fun H => Q (.ref p) H)) : Tr L0 fun H => sp_law_lines [.ref a, .ref b] H Q E :=
  fun H l => ⟨a, b, ns, m, o, L, rfl, l.pick hp0, hm, hs, hn, h0, h1, q⟩

theorem ok_law_lines (D : Df K mg "_law_lines" s_law_lines) (B : Blt mg) (k__law_draw : Ok P w K mg base CX0 1 "_law_draw" ["source", "count"] sp_law_draw) : Ok P w K mg base CX0 2 "_law_lines" ["source", "depths"] sp_law_lines := by
  obtain ⟨f, fd, hm, F⟩ := D
  refine ⟨f, fd, hm, F.kp, F.binds (fun _ _ _ _ _ _ us hl => match us, hl with | [_, _], _ => rfl), FunOkG F sc_law_lines (fun vs H Q E h => ?_) (fun cdv A outer s H vs Q E hr h => ?_), F.lk⟩
  · obtain ⟨_, _, _, _, _, _, rfl, _⟩ := h; rfl
  obtain ⟨a, b, ns, m, o, L, rfl, l, hm, hs, hn, h0, h1, q⟩ := h
  refine ⟨_, PSs.nox (pss_cons (ps_if (pt_cmpR op_le (pe_callB c_len rfl B.len_ boot_len (pa_cons (pv 1) pa_nil)) pe_int (nomark _)) (pss_one (ps_ret (pe_listRg rfl rfl B.list_ (prg_1 rfl B.range_ (pe_callB c_len rfl B.len_ boot_len (pa_cons (pv 1) pa_nil))))))
        pss_nil)
      (pss_one (ps_ret (pe_op op_cat (pe_lst (pa_cons pe_int (pa_cons (pe_op op_sub (pe_callB c_len rfl B.len_ boot_len (pa_cons (pv 1) pa_nil)) pe_int) pa_nil))) (pe_lc (own := [("step", 2)]) (g := gName 2) (by rfl) sc_law_lines.nd (pi_range1 rfl B.range_ (pa_cons pe_int pa_nil)) (blkOk_by (own := [("step", 2)]) (N := ["source", "depths", "step"]) (sc := defScope s_law_lines) (by decide +kernel)) (fun _ _ _ _ _ => (pg_name (i := 2) sc_law_lines.nd rfl (.inl rfl))) (fun _ _ _ _ _ => pts_nil) (fun _ _ _ _ _ => (pe_callG k__law_draw (hr.mono (by omega)) pas0 (pa_cons (pv 0) (pa_cons (pe_callB (show CallR _ (.builtin "len") (rLen K) from c_len) rfl B.len_ boot_len (pa_cons (pv 1) pa_nil)) pa_nil))))))))), ?_⟩
  rw [show L2.start ["source", "depths", "step"] [.ref a, .ref b] = [some (.ref a), some (.ref b), none] from rfl]
  refine Tr.of ?_ l
  obtain ⟨R_hm, P_hm⟩ := Pick.of_mem hm
  repeat walk_at "hz"
  obtain ⟨R, hp⟩ := Pick.of_mem hm
  repeat walk_at "hz"
  refine t_iteD (fun h2 => ?_) fun h2 => ?_
  · repeat walk_at "hz"
    refine q _ _ o (fun k hk => ?_) (by rw [rgI_len]; omega) (hs.le (by omega))
    unfold rgI at hk
    obtain ⟨i, hi, rfl⟩ := List.mem_map.mp hk
    have := List.mem_range.mp hi
    omega
  · repeat walk_at "hz"
    rename_i e1
    refine t_lcK wk_range (by rfl) (fun t (y : List Int × HO) => (e1, .lst [.int 0, .int ((ns.length : Int) - 1)]) :: (a, y.2) :: L) (fun t y => y.1.map V.int) (fun t y => y.1.length = t ∧ (∀ k ∈ y.1, 0 ≤ k ∧ k < ns.length) ∧ Src (m + t) y.2) ⟨([], o), ⟨rfl, (fun k hk => (nomatch hk)), hs⟩, rfl, (by walk_at "sb")⟩ (fun _ _ _ _ => trivial) ?_ ?_
    · rintro D t ⟨acc, o1⟩ v L' ht ⟨hl, hb, hs⟩ ⟨rfl, rfl⟩
      dsimp only at hl hb hs ⊢
      rw [List.nil_append]
      repeat walk_at "hz"
      refine use_law_draw (by walk_at "pk") hs (by omega) (by omega) (by omega) fun d o2 d0 d1 hs => ?_
      refine t_lcAdd (acc ++ [d], o2) ⟨by simp [hl], fun k hk => ?_, hs.le (by omega)⟩ (by walk_at "pk") (by rw [List.length_map, sizeLine_eq]; omega) (map_snoc acc d) (by walk_at "sb")
      rcases List.mem_append.mp hk with hk | hk
      · exact hb k hk
      · rw [List.mem_singleton.mp hk]; exact ⟨d0, d1⟩
    · rintro D ⟨acc, o1⟩ ⟨hl, hb, hs⟩
      dsimp only at hl hb hs ⊢
      have hl2 : acc.length = 20 := hl
      refine Tr.pick (a := e1) (.tail .head) (Tr.lcast (show [V.int 0, V.int ((ns.length : Int) - 1)] = [0, (ns.length : Int) - 1].map V.int from rfl) ?_)
      repeat walk_at "hz"
      refine (q _ ([0, (ns.length : Int) - 1] ++ acc) o1 (fun k hk => ?_) (by simp; omega) (hs.le (by omega))).sub (by walk_at "sb")
      simp only [List.cons_append, List.nil_append, List.mem_cons] at hk
      rcases hk with rfl | rfl | hk
      · omega
      · omega
      · exact hb k hk
theorem first_fl {α : Type} (b : Nat → Bool) (o : Nat → α) : ∀ n : Nat, ∃ j, j ≤ n ∧ (∀ i, i < j → b i = false) ∧ ((j = n ∧ fl b o n = []) ∨ (j < n ∧ b j = true ∧ ∃ r, fl b o n = o j :: r))
  | 0 => ⟨0, Nat.le_refl _, fun i h => absurd h (Nat.not_lt_zero i), .inl ⟨rfl, rfl⟩⟩
  | n + 1 => by
    obtain ⟨j, h1, h2, h3⟩ := first_fl b o n
    rcases h3 with ⟨rfl, h4⟩ | ⟨h3, h4, r, h5⟩
    · cases h : b j with
      | true => exact ⟨j, by omega, h2, .inr ⟨by omega, h, [], by rw [fl_succ, if_pos h, h4]; rfl⟩⟩
      | false =>
        refine ⟨j + 1, Nat.le_refl _, fun i hi => ?_, .inl ⟨rfl, by rw [fl_succ, if_neg (by rw [h]; decide), h4]⟩⟩
        by_cases e : i = j
        · rw [e]; exact h
        · exact h2 i (by omega)
    · refine ⟨j, by omega, h2, .inr ⟨by omega, h4, ?_⟩⟩
      rw [fl_succ, h5]
      split
      · exact ⟨_, rfl⟩
      · exact ⟨_, rfl⟩
def sp_law_end  : Sp := fun vs H Q E => ∃ (a : Addr) (ns : List Int) (i : Int) (L : Lg), vs = [.ref a, .int i] ∧ Led H (L) ∧ ((a, .lst (ns.map V.int)) ∈ L) ∧ (0 ≤ i) ∧ (i < ns.length) ∧ (ns.length ≤ 1000) ∧ ∀ (e : Int), (SecEnd (atD ns) ns.length i e) → Tr (L) (fun H => Q (.int e) H)
theorem use_law_end {L : Lg} {Q : VK} {E : XK} {a : Addr} {ns : List Int} {i : Int} (hm : (a, .lst (ns.map V.int)) ∈ L) (h0 : 0 ≤ i) (h1 : i < ns.length) (h2 : ns.length ≤ 1000) (q : ∀ (e : Int), (SecEnd (atD ns) ns.length i e) → Tr (L) (fun H => Q (.int e) H)) : Tr L fun H => sp_law_end [.ref a, .int i] H Q E :=
  fun H l => ⟨a, ns, i, L, rfl, l, hm, h0, h1, h2, q⟩

theorem ok_law_end (D : Df K mg "_law_end" s_law_end) (B : Blt mg) : Ok P w K mg base CX0 1 "_law_end" ["depths", "place"] sp_law_end := by
  obtain ⟨f, fd, hm, F⟩ := D
  refine ⟨f, fd, hm, F.kp, F.binds (fun _ _ _ _ _ _ us hl => match us, hl with | [_, _], _ => rfl), FunOkG F sc_law_end (fun vs H Q E h => ?_) (fun cdv A outer s H vs Q E hr h => ?_), F.lk⟩
  · obtain ⟨_, _, _, _, rfl, _⟩ := h; rfl
  obtain ⟨a, ns, i, L, rfl, l, hm, h0, h1, h2, q⟩ := h
  refine ⟨_, PSs.nox (pss_cons (ps_setLc (i := 2) (own := [("k", 3)]) (g := gName 3) (by rfl) sc_law_end.nd rfl rfl (sw_true rfl rfl rfl (by decide +kernel)) (pi_range2 rfl B.range_ (pa_cons (pe_op op_add (pv 1) pe_int) (pa_cons (pe_callB c_len rfl B.len_ boot_len (pa_cons (pv 0) pa_nil)) pa_nil))) (blkOk_by (own := [("k", 3)]) (N := ["depths", "place", "later", "k"]) (sc := defScope s_law_end) (by decide +kernel)) (fun _ _ _ _ _ => (pg_name (i := 3) sc_law_end.nd rfl (.inl rfl))) (fun _ _ _ _ _ => (pts_one (pt_cmpR op_le (pe_ix (show IxR _ (rIxL K) from ix_list) (pv 0) (pv 3) (fun _ _ => rfl)) (pe_ix (show IxR _ (rIxL K) from ix_list) (pv 0) (pv 1) (fun _ _ => rfl)) (nomark _)))) (fun _ _ _ _ _ => (pv 3)))
      (pss_one (ps_ret (pe_op op_sub (pe_ix ix_list (pe_op op_cat (pv 2) (pe_lst (pa_cons (pe_callB c_len rfl B.len_ boot_len (pa_cons (pv 0) pa_nil)) pa_nil))) pe_int (fun _ _ => rfl)) pe_int)))), ?_⟩
  rw [show L2.start ["depths", "place", "later", "k"] [.ref a, .int i] = [some (.ref a), some (.int i), none, none] from rfl]
  refine Tr.of ?_ l
  obtain ⟨R_hm, P_hm⟩ := Pick.of_mem hm
  repeat walk_at "hz"
  obtain ⟨R, hp⟩ := Pick.of_mem hm
  repeat walk_at "hz"
  refine t_lcFil wk_range (by rfl) (fun t => decide (atD ns (i + 1 + (t : Nat)) ≤ atD ns i)) (fun t => .int (i + 1 + (t : Nat))) (fun x => trivial) ?_ ?_
  · rintro D t v L' ht ⟨rfl, rfl⟩
    rw [List.nil_append]
    repeat walk_at "hz"
    refine t_iteD (fun h3 => ?_) fun h3 => ?_
    · repeat walk_at "hz"
      exact t_lcFlA ht (by rw [sizeLine_eq]; omega) (decide_eq_true h3) rfl (by walk_at "pk") (by walk_at "sb")
    · repeat walk_at "hz"
      exact t_lcFlS (decide_eq_false h3) (by walk_at "pk") (by walk_at "sb")
  · intro D
    repeat walk_at "hz"
    obtain ⟨j, g1, g2, g3⟩ := first_fl (fun t => decide (atD ns (i + 1 + (t : Nat)) ≤ atD ns i)) (fun t => V.int (i + 1 + (t : Nat))) ((ns.length : Int) - (i + 1)).toNat
    have e : ∃ r, fl (fun t => decide (atD ns (i + 1 + (t : Nat)) ≤ atD ns i)) (fun t => V.int (i + 1 + (t : Nat))) ((ns.length : Int) - (i + 1)).toNat ++ [V.int (ns.length : Int)] = V.int (i + 1 + (j : Nat)) :: r := by
      rcases g3 with ⟨rfl, g3⟩ | ⟨g3, g4, r, g5⟩
      · exact ⟨[], by rw [g3]; simp; omega⟩
      · exact ⟨_, by rw [g5]; rfl⟩
    obtain ⟨r, e⟩ := e
    refine t_cat (.tail .head) .head ?_ fun c => ?_
    · have := fl_len (fun t => decide (atD ns (i + 1 + (t : Nat)) ≤ atD ns i)) (fun t => V.int (i + 1 + (t : Nat))) ((ns.length : Int) - (i + 1)).toNat
      rw [sizeLine_eq]; simp only [List.length_singleton]; omega
    refine Tr.lcast e ?_
    refine t_ixL (v := .int (i + 1 + (j : Nat))) .head (atI_nat (j := 0) rfl) ?_
    repeat walk_at "hz"
    refine (q _ ⟨by omega, by omega, fun k k1 k2 => ?_, fun h => ?_⟩).sub (by walk_at "sb")
    · have := of_decide_eq_false (g2 (k - (i + 1)).toNat (by omega))
      rw [show i + 1 + ((k - (i + 1)).toNat : Int) = k by omega] at this
      omega
    · rcases g3 with ⟨rfl, g3⟩ | ⟨g3, g4, -⟩
      · omega
      · have := of_decide_eq_true g4
        rw [show i + 1 + (j : Int) - 1 + 1 = i + 1 + (j : Int) by omega]
        exact this

def sp_law_holds  : Sp := fun vs H Q E => ∃ (a : Addr) (most : Int) (m : Nat) (o : HO) (L : Lg), vs = [.ref a, .int most] ∧ Led H ((a, o) :: L) ∧ (Src m o) ∧ (m ≤ 1000) ∧ (1 ≤ most) ∧ (most ≤ 200) ∧ Tr (L) (fun H => Q (.bl true) H)
theorem use_law_holds {L0  L : Lg} {Q : VK} {E : XK} {a : Addr} {most : Int} {m : Nat} {o : HO} (hp0 : Pick (a) (o) L0 L) (hs : Src m o) (hm : m ≤ 1000) (h0 : 1 ≤ most) (h1 : most ≤ 200) (q : Tr (L) (fun H => Q (.bl true) H)) : Tr L0 fun H => sp_law_holds [.ref a, .int most] H Q E :=
  fun H l => ⟨a, most, m, o, L, rfl, l.pick hp0, hs, hm, h0, h1, q⟩


theorem lastW_spec {f : Int → Int} {n : Nat} (S : Stp f n) : ∀ (k : Nat) (e : Int), k ≤ n → 0 ≤ e → (k = 0 → False) → (∀ j : Nat, k = j + 1 → e ≤ f j) → ∃ j : Nat, j < k ∧ f j = e ∧ lastW f e k = j ∧ ∀ m : Nat, j < m → m < k → f m ≠ e
  | 0, _, _, _, h, _ => (h rfl).elim
  | k + 1, e, hk, he, _, h1 => by
    have b := h1 k rfl
    by_cases h : f k = e
    · exact ⟨k, by omega, h, by rw [lastW, if_pos h], fun m g1 g2 => by omega⟩
    · have k0 : k = 0 → False := fun z => by
        subst z
        have := S.zero
        have : f ((0 : Nat) : Int) = 0 := this
        omega
      obtain ⟨j, g1, g2, g3, g4⟩ := lastW_spec S k e (by omega) he k0 fun j ej => by
        subst ej
        have := S.up j (by omega)
        omega
      refine ⟨j, by omega, g2, by rw [lastW, if_neg h, g3], fun m m1 m2 => ?_⟩
      by_cases q : m = k
      · rw [q]; exact h
      · exact g4 m m1 (by omega)
/-- the places below k with f = e: the last of them -/
theorem fl_last {f : Int → Int} {e : Int} : ∀ (k j : Nat), j < k → f j = e → (∀ m : Nat, j < m → m < k → f m ≠ e) → ∃ r, fl (fun t => decide (f ((0 : Int) + (t : Nat)) = e)) (fun t => V.int (0 + (t : Nat))) k = r ++ [V.int (0 + (j : Nat))]
  | k + 1, j, hj, h, hm => by
    rw [fl_succ]
    by_cases q : j = k
    · subst q
      exact ⟨_, by rw [if_pos (by rw [Int.zero_add]; exact decide_eq_true h)]⟩
    · have := hm k (by omega) (by omega)
      rw [if_neg (by rw [Int.zero_add, decide_eq_true_eq]; exact this)]
      exact fl_last k j (by omega) h fun m m1 m2 => hm m m1 (by omega)
def sp_law_headings  : Sp := fun vs H Q E => ∃ (a : Addr) (ns : List Int) (i : Int) (L : Lg), vs = [.ref a, .int i] ∧ Led H (L) ∧ ((a, .lst (ns.map V.int)) ∈ L) ∧ (Outline ns) ∧ (0 ≤ i) ∧ (i < ns.length) ∧ ∀ (p : Addr), Tr ((p, .lst ((hdI ns i).map V.int)) :: L) (fun H => Q (.ref p) H)
theorem use_law_headings {L : Lg} {Q : VK} {E : XK} {a : Addr} {ns : List Int} {i : Int} (hm : (a, .lst (ns.map V.int)) ∈ L) (ho : Outline ns) (h0 : 0 ≤ i) (h1 : i < ns.length) (q : ∀ (p : Addr), Tr ((p, .lst ((hdI ns i).map V.int)) :: L) (fun H => Q (.ref p) H)) : Tr L fun H => sp_law_headings [.ref a, .int i] H Q E :=
  fun H l => ⟨a, ns, i, L, rfl, l, hm, ho, h0, h1, q⟩

theorem ok_law_headings (D : Df K mg "_law_headings" s_law_headings) (B : Blt mg) : Ok P w K mg base CX0 1 "_law_headings" ["depths", "place"] sp_law_headings := by
  obtain ⟨f, fd, hm, F⟩ := D
  refine ⟨f, fd, hm, F.kp, F.binds (fun _ _ _ _ _ _ us hl => match us, hl with | [_, _], _ => rfl), FunOkG F sc_law_headings (fun vs H Q E h => ?_) (fun cdv A outer s H vs Q E hr h => ?_), F.lk⟩
  · obtain ⟨_, _, _, _, rfl, _⟩ := h; rfl
  obtain ⟨a, ns, i, L, rfl, l, hm, ho, h0, h1, q⟩ := h
  refine ⟨_, PSs.nox (pss_cons (ps_set (i := 2) sc_law_headings.nd rfl (.inl rfl) (pe_lst pa_nil))
      (pss_cons (ps_for PassesOwn.never rfl (pi_range1 rfl B.range_ (pa_cons (pe_ix ix_list (pv 0) (pv 1) (fun _ _ => rfl)) pa_nil)) (pg_name (i := 3) sc_law_headings.nd rfl (.inr rfl))
        (pss_one (ps_expr (pe_bm PySem.F.plainAttrs_list PySem.F.slot_list_append PySem.F.type_list_append mt_append (pv 2) (pa_cons (pe_ix ix_list (pe_lc (own := [("k", 4)]) (g := gName 4) (by rfl) sc_law_headings.nd (pi_range1 rfl B.range_ (pa_cons (pv 1) pa_nil)) (blkOk_by (own := [("k", 4)]) (N := ["depths", "place", "found", "depth", "k"]) (sc := defScope s_law_headings) (by decide +kernel)) (fun _ _ _ _ _ => (pg_name (i := 4) sc_law_headings.nd rfl (.inl rfl))) (fun _ _ _ _ _ => (pts_one (pt_cmpR op_eq (pe_ix (show IxR _ (rIxL K) from ix_list) (pv 0) (pv 4) (fun _ _ => rfl)) (pv 3) (nomark _)))) (fun _ _ _ _ _ => (pv 4))) (pe_un un_neg pe_int) (fun _ _ => rfl)) pa_nil)))))
      (pss_one (ps_ret (pv 2))))), ?_⟩
  rw [show L2.start ["depths", "place", "found", "depth", "k"] [.ref a, .int i] = [some (.ref a), some (.int i), none, none, none] from rfl]
  refine Tr.of ?_ l
  obtain ⟨R_hm, P_hm⟩ := Pick.of_mem hm
  repeat walk_at "hz"
  obtain ⟨R, hp⟩ := Pick.of_mem hm
  have hl := ho.len
  have hat := ho.at h0 h1
  repeat walk_at "hz"
  rename_i p
  generalize hR : ((List.range (atD ns i).toNat).map fun e => lastW (atD ns) (e : Nat) i.toNat) = R0
  have hRl : R0.length = (atD ns i).toNat := by rw [← hR, List.length_map, List.length_range]
  rw [hdI_eq ho h0 h1, hR] at q
  refine t_forK wk_range (fun t ((j3, j4) : Option V × Option V) => [some (.ref a), some (.int i), some (.ref p), j3, j4]) (fun t ((j3, j4) : Option V × Option V) => (p, .lst ((R0.take t).map V.int)) :: L) (fun t ((j3, j4) : Option V × Option V) => True) ⟨(_, _), trivial, rfl, (by walk_at "sb")⟩ (fun _ _ _ => trivial) ?_ ?_
  · rintro t ⟨j3, j4⟩ v L' ht - ⟨rfl, rfl⟩
    try dsimp only at  ⊢
    simp only [List.nil_append, List.cons_append]
    repeat walk_at "hz"
    refine t_lcFil wk_range (by rfl) (fun s => decide (atD ns ((0 : Int) + (s : Nat)) = 0 + (t : Int))) (fun s => .int (0 + (s : Nat))) (fun x => trivial) ?_ ?_
    · rintro D s v L' hs ⟨rfl, rfl⟩
      rw [List.nil_append]
      repeat walk_at "hz"
      refine t_iteD (fun h3 => ?_) fun h3 => ?_
      · repeat walk_at "hz"
        exact t_lcFlA hs (by rw [sizeLine_eq]; omega) (decide_eq_true h3) rfl (by walk_at "pk") (by walk_at "sb")
      · repeat walk_at "hz"
        exact t_lcFlS (decide_eq_false h3) (by walk_at "pk") (by walk_at "sb")
    · intro D
      obtain ⟨j, g1, g2, g3, g4⟩ := lastW_spec ho.stp i.toNat (t : Int) (by omega) (by omega) (fun z => by
          have : i = 0 := by omega
          rw [this] at ht
          have := ho.stp.zero
          omega) fun j e => by
        have := ho.stp.up j (by omega)
        rw [← e, Int.toNat_of_nonneg h0] at this
        omega
      rw [Int.zero_add]
      obtain ⟨r, e⟩ := fl_last (f := atD ns) (e := (t : Int)) i.toNat j g1 g2 g4
      rw [e]
      repeat walk_at "hz"
      refine t_ixL .head (atI_last _ _) ?_
      repeat walk_at "hz"
      rw [Int.zero_add, show R0.take t ++ [(j : Int)] = R0.take (t + 1) from (take_more (by
        rw [← hR, List.getElem?_map, List.getElem?_range ht]
        show some (lastW (atD ns) ((t : Nat) : Int) i.toNat) = _
        rw [g3])).symm]
      refine t_pst (_, _) trivial rfl (by walk_at "sb")
  · rintro ⟨j3, j4⟩ -
    try dsimp only at  ⊢
    repeat walk_at "hz"
    rw [← hRl, List.take_length]
    exact q _
theorem dpth_ints (ns : List Int) : (PyData.list (ns.map PyData.int)).depth ≤ 1 := by rw [PyData.depth, depthAll_ints]; decide
theorem Outline.pop {ns : List Int} (h : Outline ns) (h1 : 1 < ns.length) : Outline ns.dropLast := by
  have hl := h.len
  rw [List.dropLast_eq_take]
  exact outline_iff.mpr ⟨by rw [List.length_take]; omega, by rw [List.length_take]; omega, chainI_take _ _ _ h.chain⟩
theorem chainI_add : ∀ (b : Int) (ns : List Int), chainI b ns → -1 ≤ b → chainI (b + 1) (ns.map fun d => d + 1)
  | _, [], _, _ => trivial
  | b, d :: r, h, hb => ⟨by have := h.1; dsimp only; omega, by have := h.2.1; dsimp only; omega, chainI_add d r h.2.2 (by have := h.1; omega)⟩
theorem Outline.under {ns : List Int} (h : Outline ns) (hl : ns.length < 200) : Outline ([0] ++ ns.map fun d => d + 1) := by
  refine outline_iff.mpr ⟨by simp, by simp; omega, ⟨by decide, by decide, ?_⟩⟩
  exact chainI_add (-1) ns h.chain (by decide)
theorem ok_law_holds (D : Df K mg "_law_holds" s_law_holds) (B : Blt mg) (k_headings : Ok P w K mg base CX0 4 "headings" ["outline", "line"] sp_headings) (k__law_draw : Ok P w K mg base CX0 1 "_law_draw" ["source", "count"] sp_law_draw) (k__law_depths : Ok P w K mg base CX0 2 "_law_depths" ["source", "most"] sp_law_depths) (k__law_lines : Ok P w K mg base CX0 2 "_law_lines" ["source", "depths"] sp_law_lines) (k__law_headings : Ok P w K mg base CX0 1 "_law_headings" ["depths", "place"] sp_law_headings) (k__law_equal : Ok P w K mg base CX0 2 "_law_equal" ["result", "expected"] (sp_equal 1)) : Ok P w K mg base CX0 5 "_law_holds" ["source", "most"] sp_law_holds := by
  obtain ⟨f, fd, hm, F⟩ := D
  refine ⟨f, fd, hm, F.kp, F.binds (fun _ _ _ _ _ _ us hl => match us, hl with | [_, _], _ => rfl), FunOkG F sc_law_holds (fun vs H Q E h => ?_) (fun cdv A outer s H vs Q E hr h => ?_), F.lk⟩
  · obtain ⟨_, _, _, _, _, rfl, _⟩ := h; rfl
  obtain ⟨a, most, m, o, L, rfl, l, hs, hm, h0, h1, q⟩ := h
  refine ⟨_, PSs.nox (pss_cons (ps_set (i := 2) sc_law_holds.nd rfl (.inl rfl) (pe_callG k__law_depths (hr.mono (by omega)) pas0 (pa_cons (pv 0) (pa_cons (pv 1) pa_nil))))
      (pss_cons (ps_for PassesOwn.never rfl (pi_range1 rfl B.range_ (pa_cons pe_int pa_nil)) (pg_name (i := 3) sc_law_holds.nd rfl (.inl rfl))
        (pss_cons (ps_set (i := 4) sc_law_holds.nd rfl (.inl rfl) (pe_callB (call_repr hr.gd hr.rm.units) rfl B.repr_ boot_repr (pa_cons (pv 2) pa_nil)))
      (pss_cons (ps_for PassesOwn.never rfl (pi_list (pe_callG k__law_lines (hr.mono (by omega)) pas0 (pa_cons (pv 0) (pa_cons (pv 2) pa_nil)))) (pg_name (i := 5) sc_law_holds.nd rfl (.inl rfl))
        (pss_cons (ps_set (i := 6) sc_law_holds.nd rfl (.inl rfl) (pe_callG k__law_headings (hr.mono (by omega)) pas0 (pa_cons (pv 2) (pa_cons (pv 5) pa_nil))))
      (pss_one (ps_for PassesOwn.never rfl (pi_range1 rfl B.range_ (pa_cons pe_int pa_nil)) (pg_name (i := 7) sc_law_holds.nd rfl (.inl rfl))
        (pss_cons (ps_set (i := 8) sc_law_holds.nd rfl (.inl rfl) (pe_callG k_headings (hr.mono (by omega)) pas0 (pa_cons (pv 2) (pa_cons (pv 5) pa_nil))))
      (pss_cons (ps_if (pt_not (pt_val (pe_callG k__law_equal (hr.mono (by omega)) pas0 (pa_cons (pv 8) (pa_cons (pv 6) pa_nil))))) (pss_one (ps_ret pe_bl))
        pss_nil)
      (pss_cons (ps_expr (pe_bm PySem.F.plainAttrs_list PySem.F.slot_list_append PySem.F.type_list_append mt_append (pv 8) (pa_cons (pv 5) pa_nil)))
      (pss_one (ps_expr (pe_bm0 PySem.F.plainAttrs_list PySem.F.slot_list_reverse PySem.F.type_list_reverse mt_reverse (pv 8)))))))))))
      (pss_cons (ps_if (pt_cmpR op_ne (pe_callB (call_repr hr.gd hr.rm.units) rfl B.repr_ boot_repr (pa_cons (pv 2) pa_nil)) (pv 4) (nomark _)) (pss_one (ps_ret pe_bl))
        pss_nil)
      (pss_one (ps_if (PW.pt (pw_and (pt_cmpR op_lt (pe_callB c_len rfl B.len_ boot_len (pa_cons (pv 2) pa_nil)) pe_int (nomark _)) (pw_and (pt_cmpR op_eq (pv 3) pe_int (nomark _)) (pw_and1 (pt_cmpR op_eq (pe_callG k__law_draw (hr.mono (by omega)) pas0 (pa_cons (pv 0) (pa_cons pe_int pa_nil))) pe_int (nomark _)))))) (pss_one (ps_asg (pe_op op_cat (pe_lst (pa_cons pe_int pa_nil)) (pe_lc (own := [("depth", 9)]) (g := gName 9) (by rfl) sc_law_holds.nd (pi_list (pv 2)) (blkOk_by (own := [("depth", 9)]) (N := ["source", "most", "depths", "step", "before", "place", "expected", "attempt", "result", "depth"]) (sc := defScope s_law_holds) (by decide +kernel)) (fun _ _ _ _ _ => (pg_name (i := 9) sc_law_holds.nd rfl (.inl rfl))) (fun _ _ _ _ _ => pts_nil) (fun _ _ _ _ _ => (pe_op op_add (pv 9) pe_int)))) (pg_slice (pv 2) po_none po_none)))
        (pss_one (ps_if (pt_cmpR op_gt (pe_callB c_len rfl B.len_ boot_len (pa_cons (pv 2) pa_nil)) pe_int (nomark _)) (pss_one (ps_expr (pe_bm0 PySem.F.plainAttrs_list PySem.F.slot_list_pop PySem.F.type_list_pop mt_pop (pv 2))))
        pss_nil))))))))
      (pss_one (ps_ret (pe_and (pe_cmpR (op_eqD hr.rm.units) (pe_callG k_headings (hr.mono (by omega)) pas0 (pa_cons (pe_listRg rfl rfl B.list_ (prg_1 rfl B.range_ pe_int)) (pa_cons pe_int pa_nil))) (pe_listRg rfl rfl B.list_ (prg_1 rfl B.range_ pe_int)) (nomark _)) (pe_one (pe_cmpR (op_eqD hr.rm.units) (pe_callG k_headings (hr.mono (by omega)) pas0 (pa_cons (pe_lst (pa_cons pe_int (pa_cons pe_int pa_nil))) (pa_cons pe_int pa_nil))) (pe_lst pa_nil) (nomark _)))))))), ?_⟩
  rw [show L2.start ["source", "most", "depths", "step", "before", "place", "expected", "attempt", "result", "depth"] [.ref a, .int most] = [some (.ref a), some (.int most), none, none, none, none, none, none, none, none] from rfl]
  refine Tr.of ?_ l
  repeat walk_at "hz"
  refine use_law_depths .head hs (by omega) h0 h1 fun ns p o1 ho hnl hs => ?_
  repeat walk_at "hz"
  refine t_forK wk_range (fun t ((ns, o, j3, j4, j5, j6, j7, j8, j9) : (List Int) × HO × Option V × Option V × Option V × Option V × Option V × Option V × Option V) => [some (.ref a), some (.int most), some (.ref p), j3, j4, j5, j6, j7, j8, j9]) (fun t ((ns, o, j3, j4, j5, j6, j7, j8, j9) : (List Int) × HO × Option V × Option V × Option V × Option V × Option V × Option V × Option V) => (p, .lst (ns.map V.int)) :: (a, o) :: L) (fun t ((ns, o, j3, j4, j5, j6, j7, j8, j9) : (List Int) × HO × Option V × Option V × Option V × Option V × Option V × Option V × Option V) => Outline ns ∧ Src (m + 1000 + 30 * t) o) ⟨(ns, o1, _, _, _, _, _, _, _), ⟨ho, hs⟩, rfl, (by walk_at "sb")⟩ (fun _ _ _ => trivial) ?_ ?_
  · clear ho hs hnl
    rintro t ⟨ns, o, j3, j4, j5, j6, j7, j8, j9⟩ v L' ht ⟨ho, hs⟩ ⟨rfl, rfl⟩
    try dsimp only at ho hs ⊢
    simp only [List.nil_append, List.cons_append]
    have hl := ho.len
    repeat walk_at "hz"
    refine t_reprI (ns := ns) (by walk_at "mb") ho.small (by omega) ?_
    repeat walk_at "hz"
    refine use_law_lines (by walk_at "pk") (by walk_at "mb") hs (by omega) hl.1 hl.2 fun pl ks o2 hk hkl hs => ?_
    repeat walk_at "hz"
    refine t_forK wk_list (fun u ((z5, z6, z7, z8, z9) : Option V × Option V × Option V × Option V × Option V) => [some (.ref a), some (.int most), some (.ref p), some (.int (0 + t)), some (.str (reprI ns)), z5, z6, z7, z8, z9]) (fun u ((z5, z6, z7, z8, z9) : Option V × Option V × Option V × Option V × Option V) => (pl, .lst (ks.map V.int)) :: (a, o2) :: (p, .lst (ns.map V.int)) :: L) (fun u ((z5, z6, z7, z8, z9) : Option V × Option V × Option V × Option V × Option V) => True) ⟨(_, _, _, _, _), trivial, rfl, (by walk_at "sb")⟩ (fun _ _ _ => ⟨_, .head⟩) ?_ ?_
    · rintro u ⟨z5, z6, z7, z8, z9⟩ v L' hu - ⟨hv, rfl⟩
      try dsimp only at  ⊢
      simp only [List.nil_append, List.cons_append]
      obtain ⟨x, hx, rfl⟩ := map_get hv
      obtain ⟨x0, x1⟩ := hk x (List.mem_of_getElem? hx)
      have hat := ho.at x0 x1
      have hdl := hdI_len ns x
      repeat walk_at "hz"
      refine use_law_headings (ns := ns) (by walk_at "mb") ho x0 x1 fun e => ?_
      repeat walk_at "hz"
      refine t_forK wk_range (fun w ((y7, y8, y9) : Option V × Option V × Option V) => [some (.ref a), some (.int most), some (.ref p), some (.int (0 + t)), some (.str (reprI ns)), some (.int x), some (.ref e), y7, y8, y9]) (fun w ((y7, y8, y9) : Option V × Option V × Option V) => (e, .lst ((hdI ns x).map V.int)) :: (pl, .lst (ks.map V.int)) :: (a, o2) :: (p, .lst (ns.map V.int)) :: L) (fun w ((y7, y8, y9) : Option V × Option V × Option V) => True) ⟨(_, _, _), trivial, rfl, (by walk_at "sb")⟩ (fun _ _ _ => trivial) ?_ ?_
      · rintro w ⟨y7, y8, y9⟩ v L' hw - ⟨rfl, rfl⟩
        try dsimp only at  ⊢
        simp only [List.nil_append, List.cons_append]
        repeat walk_at "hz"
        refine use_headings (ns := ns) (by walk_at "mb") ho x0 x1 fun r => ?_
        repeat walk_at "hz"
        refine use_equal (d := .list ((hdI ns x).map PyData.int)) (Dt.ints (by walk_at "mb")) (Dt.ints (by walk_at "mb")) (dpth_ints _) (wide_ints (by omega)) ?_
        repeat walk_at "hz"
        refine t_pst (_, _, _) trivial rfl (by walk_at "sb")
      · rintro ⟨y7, y8, y9⟩ -
        try dsimp only at  ⊢
        repeat walk_at "hz"
        refine t_pst (_, _, _, _, _) trivial rfl (by walk_at "sb")
    · rintro ⟨z5, z6, z7, z8, z9⟩ -
      try dsimp only at  ⊢
      repeat walk_at "hz"
      refine t_reprI (ns := ns) (by walk_at "mb") ho.small (by omega) ?_
      repeat walk_at "hz"
      refine t_iteD (fun h2 => ?_) fun h2 => ?_
      · repeat walk_at "hz"
        refine t_iteD (fun h3 => ?_) fun h3 => ?_
        · repeat walk_at "hz"
          refine use_law_draw (by walk_at "pk") hs (by omega) (by omega) (by omega) fun d o3 d0 d1 hs => ?_
          repeat walk_at "hz"
          refine t_iteD (fun h4 => ?_) fun h4 => ?_
          · repeat walk_at "hz"
            refine t_lcMap (wk_list (xs := ns.map V.int)) (by rfl) ((ns.map fun x => x + 1).map V.int) (by simp) (fun x => ⟨_, (by walk_at "pk")⟩) ?_ ?_
            · rintro D i v L' hi ⟨hv, rfl⟩
              obtain ⟨x, hx, rfl⟩ := map_get hv
              rw [List.nil_append]
              repeat walk_at "hz"
              refine t_lcMp (by walk_at "pk") (get_map _ (get_map _ hx)) (by rw [List.length_map, List.length_map, sizeLine_eq]; omega) (by walk_at "sb")
            · intro D
              refine t_cat (.tail .head) .head (by rw [sizeLine_eq]; simp; omega) fun c => ?_
              refine Tr.lcast (show _ = ([0] ++ ns.map fun x => x + 1).map V.int by rw [List.map_append]; rfl) ?_
              repeat walk_at "hz"
              refine t_pst (_, o3, _, _, _, _, _, _, _) ⟨ho.under (by omega), hs.le (by omega)⟩ rfl (by walk_at "sb")
          · repeat walk_at "hz"
            refine t_iteD (fun hq => ?_) fun hq => ?_
            · repeat walk_at "hz"
              refine t_popI (ns := ns) (by walk_at "pk") hl.1 ?_
              repeat walk_at "hz"
              refine t_pst (ns.dropLast, _, _, _, _, _, _, _, _) ⟨ho.pop (by omega), hs.le (by omega)⟩ rfl (by walk_at "sb")
            · repeat walk_at "hz"
              refine t_pst (ns, _, _, _, _, _, _, _, _) ⟨ho, hs.le (by omega)⟩ rfl (by walk_at "sb")
        · repeat walk_at "hz"
          refine t_iteD (fun hq => ?_) fun hq => ?_
          · repeat walk_at "hz"
            refine t_popI (ns := ns) (by walk_at "pk") hl.1 ?_
            repeat walk_at "hz"
            refine t_pst (ns.dropLast, _, _, _, _, _, _, _, _) ⟨ho.pop (by omega), hs.le (by omega)⟩ rfl (by walk_at "sb")
          · repeat walk_at "hz"
            refine t_pst (ns, _, _, _, _, _, _, _, _) ⟨ho, hs.le (by omega)⟩ rfl (by walk_at "sb")
      · repeat walk_at "hz"
        refine t_popI (ns := ns) (by walk_at "pk") hl.1 ?_
        repeat walk_at "hz"
        refine t_pst (ns.dropLast, _, _, _, _, _, _, _, _) ⟨ho.pop (by omega), hs.le (by omega)⟩ rfl (by walk_at "sb")
  · rintro ⟨ns, o, j3, j4, j5, j6, j7, j8, j9⟩ ⟨ho, hs⟩
    try dsimp only at ho hs ⊢
    repeat walk_at "hz"
    refine use_headings (ns := rgI 0 200) (by walk_at "mb") (by unfold Outline; decide +kernel) (by omega) (by rw [rgI_len]; decide) fun r => ?_
    repeat walk_at "hz"
    refine t_eqInts (xs := hdI (rgI 0 200) 199) (ys := rgI 0 199) (by walk_at "mb") (by walk_at "mb") ?_
    rw [show decide (hdI (rgI 0 200) 199 = rgI 0 199) = true by decide +kernel]
    repeat walk_at "hz"
    refine use_headings (ns := [0, 0]) (by walk_at "mb") (by unfold Outline; decide +kernel) (by omega) (by decide) fun r => ?_
    repeat walk_at "hz"
    refine t_eqInts (xs := hdI [0, 0] 1) (ys := []) (by walk_at "mb") (by walk_at "mb") ?_
    rw [show decide (hdI [0, 0] 1 = []) = true by decide +kernel]
    exact q.sub (by walk_at "sb")

def sp_law (K : PySem.W.Frag) : Sp := fun vs H Q _ => ∃ (a : Addr) (ns : List Int) (L : Lg), vs = [.ref a] ∧ Led H L ∧ Scr K L a ns ∧ ns.length ≤ 63 ∧ ∀ H', Q (.bl true) H'
theorem ok_law (D : Df K mg "law" s_law) (B : Blt mg) (k__law_source : Ok P w K mg base CX0 1 "_law_source" ["cell", "k"] sp_law_source) (k__law_holds : Ok P w K mg base CX0 5 "_law_holds" ["source", "most"] sp_law_holds) :
    Ok P w K mg base CX0 6 "law" ["script"] (sp_law K) := by
  obtain ⟨f, fd, hm, F⟩ := D
  refine ⟨f, fd, hm, F.kp, F.binds (fun _ _ _ _ _ _ us hl => match us, hl with | [_], _ => rfl), FunOkG F sc_law (fun vs H Q E h => ?_) (fun cdv A outer s H vs Q E hr h => ?_), F.lk⟩
  · obtain ⟨a, ns, L, rfl, _⟩ := h; rfl
  · obtain ⟨a, ns, L, rfl, l, hS, hl, q⟩ := h
    refine ⟨_, PSs.nox (pss_cons (ps_for PassesOwn.never rfl (pi_enum (by rfl) B.enumerate_ (pa_cons (pe_slice sl_list (pe_op op_catS (pv 0) (pe_lst (pa_cons pe_int pa_nil))) po_none (po_some (pe_callB (c_max2 rfl) rfl B.max_ boot_max (pa_cons pe_int (pa_cons (pe_callB (c_min2 rfl) rfl B.min_ boot_min (pa_cons (pe_callB c_len rfl B.len_ boot_len (pa_cons (pv 0) pa_nil)) (pa_cons pe_int pa_nil))) pa_nil))))) pa_nil)) (pg_tup rfl (pgs_cons (pg_name (i := 1) sc_law.nd rfl (.inl rfl)) (pgs_cons (pg_name (i := 2) sc_law.nd rfl (.inl rfl)) pgs_nil)))
        (pss_one (ps_if (pt_not (pt_val (pe_callG k__law_holds (hr.mono (by omega)) pas0 (pa_cons (pe_callG k__law_source (hr.mono (by omega)) pas0 (pa_cons (pv 2) (pa_cons (pv 1) pa_nil))) (pa_cons (pe_ifExp (pt_cmpR (op_eqD hr.rm.units) (pv 0) (pe_lst pa_nil) (nomark _)) pe_int pe_int) pa_nil))))) (pss_one (ps_ret pe_bl))
        pss_nil)))
      (pss_one (ps_ret pe_bl))), ?_⟩
    rw [show L2.start ["script", "k", "cell"] [.ref a] = [some (.ref a), none, none] from rfl]
    refine Tr.of ?_ l
    repeat walk_at "hz"
    rename_i z
    refine t_catSc hS.cons (ys := [.int 0]) .head (by rw [sizeLine_eq]; simp; omega) fun c => ?_
    repeat walk_at "hz"
    refine t_lenSc hS.cons.cons ?_
    repeat walk_at "hz"
    rename_i d
    refine Tr.lcast (show _ = (cutI (ns ++ [0]) none (some (max 1 (min (ns.length : Int) 10)))).map V.int by rw [← cut_ints, List.map_append]; rfl) ?_
    generalize hcs : cutI (ns ++ [0]) none (some (max 1 (min (ns.length : Int) 10))) = cs
    have hcl : cs.length ≤ 64 := by
      have := cutI_len (ns ++ [0]) none (some (max 1 (min (ns.length : Int) 10)))
      rw [hcs, List.length_append, List.length_singleton] at this
      omega
    refine t_forK wk_enum (fun i (y : Option V × Option V) => [some (.ref a), y.1, y.2]) (fun _ _ => (d, .lst (cs.map V.int)) :: L) (fun _ _ => True) ⟨(none, none), trivial, rfl, by walk_at "sb"⟩ (fun _ _ _ => ⟨_, .head⟩) ?_ ?_
    · rintro i ⟨y1, y2⟩ v L' hi - ⟨T, x, rfl, hx, rfl⟩
      obtain ⟨cell, hc, rfl⟩ := map_get hx
      have hi2 : i < cs.length := by simpa using hi
      rw [List.cons_append, List.nil_append]
      dsimp only
      repeat walk_at "hz"
      refine use_law_source (by omega) (by omega) fun p o hs => ?_
      repeat walk_at "hz"
      rename_i e
      refine t_eqSc (zs := []) hS.cons.cons.cons.cons (by simp) ?_
      repeat walk_at "hz"
      refine t_iteD (fun h => ?_) fun h => ?_
      · repeat walk_at "hz"
        refine use_law_holds (by walk_at "pk") hs (by omega) (by omega) (by omega) ?_
        repeat walk_at "hz"
        refine t_pst (some (.int i), some (.int cell)) trivial rfl (by walk_at "sb")
      · repeat walk_at "hz"
        refine use_law_holds (by walk_at "pk") hs (by omega) (by omega) (by omega) ?_
        repeat walk_at "hz"
        refine t_pst (some (.int i), some (.int cell)) trivial rfl (by walk_at "sb")
    · rintro ⟨y1, y2⟩ -
      repeat walk_at "hz"
      exact fun H _ => q H
theorem law_ok (B : Blt mg) (g_MAX_LINES : GV mg "MAX_LINES" (.int 200)) (d__law_source : Df K mg "_law_source" s_law_source) (d_is_integer : Df K mg "is_integer" s_is_integer) (d_is_outline : Df K mg "is_outline" s_is_outline) (d_check_outline : Df K mg "check_outline" s_check_outline) (d_check_line : Df K mg "check_line" s_check_line) (d_headings_of : Df K mg "headings_of" s_headings_of) (d_headings : Df K mg "headings" s_headings) (d__law_draw : Df K mg "_law_draw" s_law_draw) (d__law_depths : Df K mg "_law_depths" s_law_depths) (d__law_lines : Df K mg "_law_lines" s_law_lines) (d__law_headings : Df K mg "_law_headings" s_law_headings) (d__law_equal : Df K mg "_law_equal" s_law_equal) (d__law_holds : Df K mg "_law_holds" s_law_holds) (d_law : Df K mg "law" s_law) :
    Ok P w K mg base CX0 6 "law" ["script"] (sp_law K) := by
  have k__law_source := ok_law_source (P := P) (w := w) (base := base) d__law_source B
  have k_is_integer := ok_is_integer (P := P) (w := w) (base := base) d_is_integer B
  have k_is_outline := ok_is_outline (P := P) (w := w) (base := base) d_is_outline B g_MAX_LINES k_is_integer
  have k_check_outline := ok_check_outline (P := P) (w := w) (base := base) d_check_outline k_is_outline
  have k_check_line := ok_check_line (P := P) (w := w) (base := base) d_check_line B k_is_integer
  have k_headings_of := ok_headings_of (P := P) (w := w) (base := base) d_headings_of B
  have k_headings := ok_headings (P := P) (w := w) (base := base) d_headings B k_check_outline k_check_line k_headings_of
  have k__law_draw := ok_law_draw (P := P) (w := w) (base := base) d__law_draw B
  have k__law_depths := ok_law_depths (P := P) (w := w) (base := base) d__law_depths B k__law_draw
  have k__law_lines := ok_law_lines (P := P) (w := w) (base := base) d__law_lines B k__law_draw
  have k__law_headings := ok_law_headings (P := P) (w := w) (base := base) d__law_headings B
  have k__law_equal := ok_law_equal (P := P) (w := w) (base := base) d__law_equal B
  have k__law_holds := ok_law_holds (P := P) (w := w) (base := base) d__law_holds B k_headings k__law_draw k__law_depths k__law_lines k__law_headings k__law_equal
  have k_law := ok_law (P := P) (w := w) (base := base) d_law B k__law_source k__law_holds
  exact k_law


end
end Hz
open PySem PySem.W PyProof.Rows
set_option maxRecDepth 100000 in
set_option maxHeartbeats 0 in
theorem PySem.Challenge.cw_stickyheads_k02_headings_of_lines_holds : PySem.Challenge.rw_stickyheads_k02_headings_of_lines.Holds := by
  w_on; o_law; k_head; (case hw => w_witness2)
  k_fill
  refine Hz.walkG (l := PySem.Challenge.rw_stickyheads_k02_headings_of_lines) (n := 63) (k := 6) (x := "script") (CX := fun _ => L2.CX0) (sp := fun w => Hz.sp_law _) rfl (by decide) rfl ⟨⟨rfl, by decide, by decide⟩, rfl⟩ (fun w h Y => PySem.W.kIn_of Y) ?F
    (fun w H a ns hl hb _ hS => by
      obtain ⟨L, l, hS⟩ := Hz.scr_start hS
      exact ⟨a, ns, L, rfl, l, hS, hl, by first | exact fun _ => rfl | exact fun _ _ => rfl⟩) (fun _ _ _ _ _ h => h)
  case F =>
    intro w mg fa h KX G hmg base _ _
    refine Hz.law_ok ⟨?_, ?_, ?_, ?_, ?_, ?_, ?_, ?_, ?_, ?_, ?_, ?_, ?_, ?_, ?_, ?_, ?_, ?_, ?_, ?_⟩ ?_ ?_ ?_ ?_ ?_ ?_ ?_ ?_ ?_ ?_ ?_ ?_ ?_ ?_ ?_
    iterate 20 (refine Hz.no_mk KX G ?_; k_is)
    · refine' Hz.gv_mk KX G ?a ?r; (case a => k_is); (case r => exact ⟨_, rfl⟩)
    iterate 14 (refine' Hz.df_mk KX G ?a ?l ?c ?k; (case a => k_is); (case l => k_is); (case c => k_is); (case k => k_is))
