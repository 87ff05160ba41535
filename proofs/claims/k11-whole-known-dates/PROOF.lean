import PyProof.Rows.All
import HandS.ForMost
import HandS.IsInst
import HandS.Wide
import HandS.StrMore
import HandS.TupAny
import HandS.Flow
import PyProof.StrBlock2
import HandS.Walk
import HandS.Zip
import HandS.Style
import HandS.Deep
import HandS.ForExc
import HandS.SetKeys
import KE.DataMinMax
import KE.KRevSl
import KE.SortData
import KE.KSortTupAny
import KE.GoesMore
import KE.GoesEnum
import HandS.TupMul
import HandS.More
import HandS.Codes
import HandS.Conv
import OpenK.KOps
import PyProof.SumWalkG
import PyProof.WalkInts
import PyProof.Rows.StrMeet
import HandS.SetFor
import HandS.Strs
import HandS.ExcIs
import HandS.HotCalls
import HandS.Replace
import PyProof.StrLawsTight
import PyProof.StrLawsChain
import PyProof.Rows.StrLawsPart
import PyProof.Rows.StrFirst
import PyProof.Rows.StrSplitAre
import PyProof.Rows.RegStrFacts
import HandS.TupSets
import PySem.Challenge.RW_datepattern_k11_whole_known_dates
set_option Elab.async false
set_option linter.all false
set_option maxRecDepth 100000
set_option maxHeartbeats 1000000
/-! The W layer: weakest readings, straight over the text -/
namespace DP
open PySem L2

/-! ### weakest readings -/
section
variable (X : Cx)
structure wE (e : Expr) (σ : L2.St) (H : Hp) (Q : VK) : Prop where
  run : ∀ (pins : List (Addr × Obj)) (s : Shared), Inv X pins σ H s → wpAny (model X.prog X.w) X.A (eval e X.env) (EP X pins σ Q) X.xe s
structure wT (e : Expr) (σ : L2.St) (H : Hp) (Q : Bool → Hp → Prop) : Prop where
  run : ∀ (pins : List (Addr × Obj)) (s : Shared), Inv X pins σ H s → wpAny (model X.prog X.w) X.A (isTrue e X.env (eval e X.env)) (TP X pins σ Q) X.xe s
structure wW (e : Expr) (σ : L2.St) (H : Hp) (Q : Bool → Hp → Prop) : Prop where
  run : ∀ (whole : Sem Value) (pins : List (Addr × Obj)) (s : Shared), Inv X pins σ H s → wpAny (model X.prog X.w) X.A (isTrue e X.env whole) (TP X pins σ Q) X.xe s
structure wA (es : List Expr) (σ : L2.St) (H : Hp) (Q : List V → Hp → Prop) : Prop where
  run : ∀ (pos : Pos) (pins : List (Addr × Obj)) (s : Shared), Inv X pins σ H s → wpAny (model X.prog X.w) X.A (spliced (backTo pos (starEach es X.env))) (AP X pins σ Q) X.xe s
structure wS (st : Stmt) (nx : L2.St → Hp → Prop) (rt : VK) (bk ct : L2.St → Hp → Prop) (σ : L2.St) (H : Hp) : Prop where
  run : ∀ (pins : List (Addr × Obj)) (s : Shared), Inv X pins σ H s → wpAny (model X.prog X.w) X.A (exec st X.env) (SP X pins ⟨nx, rt, bk, ct⟩) X.xe s
structure wSs (st : List Stmt) (nx : L2.St → Hp → Prop) (rt : VK) (bk ct : L2.St → Hp → Prop) (σ : L2.St) (H : Hp) : Prop where
  run : ∀ (pins : List (Addr × Obj)) (s : Shared), Inv X pins σ H s → wpAny (model X.prog X.w) X.A (execs st X.env) (SP X pins ⟨nx, rt, bk, ct⟩) X.xe s
structure wG (tg : Expr) (v : V) (σ : L2.St) (H : Hp) (Q : L2.St → Hp → Prop) : Prop where
  run : ∀ (pins : List (Addr × Obj)) (s : Shared) (u : Value), Inv X pins σ H s → RelV v u → wpAny (model X.prog X.w) X.A (assign tg X.env u) (fun _ s' => ∃ σ' H', Inv X pins σ' H' s' ∧ Q σ' H') X.xe s
structure wGs (tgs : List Expr) (vs : List V) (σ : L2.St) (H : Hp) (Q : L2.St → Hp → Prop) : Prop where
  run : ∀ (pins : List (Addr × Obj)) (s : Shared) (us : List Value), Inv X pins σ H s → Vals vs us → wpAny (model X.prog X.w) X.A (assignInOrder ((assignEach tgs X.env).map (·.2)) us) (fun _ s' => ∃ σ' H', Inv X pins σ' H' s' ∧ Q σ' H') X.xe s
structure wI (tg iter : Expr) (σ : L2.St) (H : Hp) (R : It → Hp → Prop) : Prop where
  run : ∀ (pins : List (Addr × Obj)) (s : Shared), Inv X pins σ H s → wpAny (model X.prog X.w) X.A (eval iter X.env) (fun v s1 => wpAny (model X.prog X.w) X.A (pyIter v) (PIE X pins σ tg R) X.xe s1) X.xe s
structure wO (e : Option Expr) (σ : L2.St) (H : Hp) (Q : Option Int → Hp → Prop) : Prop where
  run : ∀ (pins : List (Addr × Obj)) (s : Shared), Inv X pins σ H s → wpAny (model X.prog X.w) X.A (evalPart e X.env) (fun u s' => ∃ o H', Inv X pins σ H' s' ∧ IsPart u o ∧ Q o H') X.xe s
structure wOp (f : Value → Value → Sem Value) (x y : V) (H : Hp) (Q : VK) : Prop where
  run : ∀ (pins : List (Addr × Obj)) (s : Shared) (σ : L2.St) (v u : Value), Inv X pins σ H s → RelV x v → RelV y u → wpAny (model X.prog X.w) X.A (f v u) (EP X pins σ Q) X.xe s
structure wUn (f : Value → Sem Value) (x : V) (H : Hp) (Q : VK) : Prop where
  run : ∀ (pins : List (Addr × Obj)) (s : Shared) (σ : L2.St) (v : Value), Inv X pins σ H s → RelV x v → wpAny (model X.prog X.w) X.A (f v) (EP X pins σ Q) X.xe s
structure wC (f : Value) (xs : List V) (H : Hp) (Q : VK) : Prop where
  run : ∀ (pins : List (Addr × Obj)) (s : Shared) (σ : L2.St) (us : List Value), Inv X pins σ H s → Vals xs us → wpAny (model X.prog X.w) X.A (call f us) (EP X pins σ Q) X.xe s
structure wTru (x : V) (H : Hp) (Q : Bool → Hp → Prop) : Prop where
  run : ∀ (pins : List (Addr × Obj)) (s : Shared) (σ : L2.St) (v : Value), Inv X pins σ H s → RelV x v → wpAny (model X.prog X.w) X.A (truthy v) (TP X pins σ Q) X.xe s
structure wM (id : String) (x : V) (xs : List V) (H : Hp) (Q : VK) : Prop where
  run : ∀ (pins : List (Addr × Obj)) (s : Shared) (σ : L2.St) (v : Value) (us : List Value), Inv X pins σ H s → RelV x v → Vals xs us → wpAny (model X.prog X.w) X.A (call (.builtin id) (v :: us)) (EP X pins σ Q) X.xe s
structure wIx (x y : V) (H : Hp) (Q : VK) : Prop where
  run : ∀ (value slice : Expr) (pins : List (Addr × Obj)) (s : Shared) (σ : L2.St) (v u : Value), Inv X pins σ H s → RelV x v → RelV y u → subscripted slice false v u = operate [v, u] (getItem v u) → wpAny (model X.prog X.w) X.A (PyProof.Rows.subscriptTail value slice v u) (EP X pins σ Q) X.xe s
structure wSl (x : V) (lo hi : Option Int) (H : Hp) (Q : VK) : Prop where
  run : ∀ (pins : List (Addr × Obj)) (s : Shared) (σ : L2.St) (v vl vu : Value) (sl : Addr), Inv X pins σ H s → RelV x v → s.heap.IsSliceOf sl vl vu .none → IsPart vl lo → IsPart vu hi →
    ∃ T id, typeLookup (.type T) "__getitem__" = pure (some (.builtin id)) ∧ s.TypeIs v T ∧ wpAny (model X.prog X.w) X.A (getItem v (.ref sl)) (EP X pins σ Q) X.xe s
end
section
variable {X : Cx} {e : Expr} {es : List Expr} {st : Stmt} {sts : List Stmt} {σ : L2.St} {H : Hp}
theorem peW : PE X e (wE X e) := ⟨fun pins s _ _ _ I h => h.run pins s I⟩
theorem ptW : PT X e (wT X e) := ⟨fun pins s _ _ _ I h => h.run pins s I⟩
theorem pwW : PW X e (wW X e) := ⟨fun wh pins s _ _ _ I h => h.run wh pins s I⟩
theorem paW : PA X es (wA X es) := ⟨fun pos pins s _ _ _ I h => h.run pos pins s I⟩
theorem psW : PS X st (fun D => wS X st D.nx D.rt D.bk D.ct) := ⟨fun pins s _ _ _ I h => h.run pins s I⟩
theorem pssW : PSs X sts (fun D => wSs X sts D.nx D.rt D.bk D.ct) := ⟨fun pins s _ _ _ I h => h.run pins s I⟩
theorem pgW {tg : Expr} : PG X tg (wG X tg) := ⟨fun pins s _ _ _ u _ I r h => h.run pins s u I r⟩
theorem pgsW {tg : List Expr} : PGs X tg (wGs X tg) := ⟨fun pins s _ _ _ us _ I r h => h.run pins s us I r⟩
theorem piW {tg it : Expr} : PI X tg it (wI X tg it) := ⟨fun pins s _ _ _ I h => h.run pins s I⟩
theorem poW {o : Option Expr} : PO X o (wO X o) := ⟨fun pins s _ _ _ I h => h.run pins s I⟩
theorem opW {f : Value → Value → Sem Value} : OpR X f (wOp X f) := fun pins s σ _ _ _ v u _ I rx ry h => h.run pins s σ v u I rx ry
theorem unW {f : Value → Sem Value} : UnR X f (wUn X f) := fun pins s σ _ _ v _ I rx h => h.run pins s σ v I rx
theorem crW {f : Value} : CallR X f (wC X f) := fun pins s σ _ _ us _ I rx h => h.run pins s σ us I rx
theorem trW : TruR X (wTru X) := fun pins s σ _ _ v _ I rx h => h.run pins s σ v I rx
theorem mtW {id : String} : MtR X id (wM X id) := fun pins s σ _ _ _ v us _ I rx rv h => h.run pins s σ v us I rx rv
theorem ixW : IxR X (wIx X) := fun value slice pins s σ _ _ _ v u _ I rx ry h hs => h.run value slice pins s σ v u I rx ry hs
theorem slW : SlR X (wSl X) := fun pins s σ _ _ v vl vu _ _ sl _ I rx hs pl pu h => h.run pins s σ v vl vu sl I rx hs pl pu
theorem goE {t : TE} {Q : VK} (h : PE X e t) (q : t σ H Q) : wE X e σ H Q := ⟨fun pins s I => h.run pins s σ H Q I q⟩
theorem goT {t : TT} {Q : Bool → Hp → Prop} (h : PT X e t) (q : t σ H Q) : wT X e σ H Q := ⟨fun pins s I => h.run pins s σ H Q I q⟩
theorem goW {t : TT} {Q : Bool → Hp → Prop} (h : PW X e t) (q : t σ H Q) : wW X e σ H Q := ⟨fun wh pins s I => h.run wh pins s σ H Q I q⟩
theorem goA {t : TA} {Q : List V → Hp → Prop} (h : PA X es t) (q : t σ H Q) : wA X es σ H Q := ⟨fun pos pins s I => h.run pos pins s σ H Q I q⟩
theorem goS {t : TS} {nx : L2.St → Hp → Prop} {rt : VK} {bk ct : L2.St → Hp → Prop} (h : PS X st t) (q : t ⟨nx, rt, bk, ct⟩ σ H) : wS X st nx rt bk ct σ H := ⟨fun pins s I => h.run pins s σ H _ I q⟩
theorem goSs {t : TS} {nx : L2.St → Hp → Prop} {rt : VK} {bk ct : L2.St → Hp → Prop} (h : PSs X sts t) (q : t ⟨nx, rt, bk, ct⟩ σ H) : wSs X sts nx rt bk ct σ H := ⟨fun pins s I => h.run pins s σ H _ I q⟩
theorem goG {tg : Expr} {t : TG} {v : V} {Q : L2.St → Hp → Prop} (h : PG X tg t) (q : t v σ H Q) : wG X tg v σ H Q := ⟨fun pins s u I r => h.run pins s σ H v u Q I r q⟩
theorem goGs {tg : List Expr} {t : TGs} {v : List V} {Q : L2.St → Hp → Prop} (h : PGs X tg t) (q : t v σ H Q) : wGs X tg v σ H Q := ⟨fun pins s u I r => h.run pins s σ H v u Q I r q⟩
theorem goI {tg it : Expr} {t : TI} {R : It → Hp → Prop} (h : PI X tg it t) (q : t σ H R) : wI X tg it σ H R := ⟨fun pins s I => h.run pins s σ H R I q⟩
theorem goO {o : Option Expr} {t : TO} {Q : Option Int → Hp → Prop} (h : PO X o t) (q : t σ H Q) : wO X o σ H Q := ⟨fun pins s I => h.run pins s σ H Q I q⟩
theorem goOp {f : Value → Value → Sem Value} {r : R2} {x y : V} {Q : VK} (h : OpR X f r) (q : r x y H Q) : wOp X f x y H Q := ⟨fun pins s σ v u I rx ry => h pins s σ H x y v u Q I rx ry q⟩
theorem goUn {f : Value → Sem Value} {r : V → Hp → VK → Prop} {x : V} {Q : VK} (h : UnR X f r) (q : r x H Q) : wUn X f x H Q := ⟨fun pins s σ v I rx => h pins s σ H x v Q I rx q⟩
theorem goC {f : Value} {r : List V → Hp → VK → Prop} {xs : List V} {Q : VK} (h : CallR X f r) (q : r xs H Q) : wC X f xs H Q := ⟨fun pins s σ us I rx => h pins s σ H xs us Q I rx q⟩
theorem goTr {r : V → Hp → (Bool → Hp → Prop) → Prop} {x : V} {Q : Bool → Hp → Prop} (h : TruR X r) (q : r x H Q) : wTru X x H Q := ⟨fun pins s σ v I rx => h pins s σ H x v Q I rx q⟩
theorem goM {id : String} {r : V → List V → Hp → VK → Prop} {x : V} {xs : List V} {Q : VK} (h : MtR X id r) (q : r x xs H Q) : wM X id x xs H Q := ⟨fun pins s σ v us I rx rv => h pins s σ H x xs v us Q I rx rv q⟩
theorem goIx {r : R2} {x y : V} {Q : VK} (h : IxR X r) (q : r x y H Q) : wIx X x y H Q := ⟨fun value slice pins s σ v u I rx ry hs => h value slice pins s σ H x y v u Q I rx ry q hs⟩
theorem goSl {r : V → Option Int → Option Int → Hp → VK → Prop} {x : V} {lo hi : Option Int} {Q : VK} (h : SlR X r) (q : r x lo hi H Q) : wSl X x lo hi H Q := ⟨fun pins s σ v vl vu sl I rx hs pl pu => h pins s σ H x v vl vu lo hi sl Q I rx hs pl pu q⟩
theorem wE_mono {R R' : VK} (hm : ∀ v H', R v H' → R' v H') (h : wE X e σ H R) : wE X e σ H R' := ⟨fun pins s I => thn (h.run pins s I) fun u s1 ⟨v, H1, I1, r, q⟩ => ⟨v, H1, I1, r, hm _ _ q⟩⟩
theorem wT_mono {R R' : Bool → Hp → Prop} (hm : ∀ v H', R v H' → R' v H') (h : wT X e σ H R) : wT X e σ H R' := ⟨fun pins s I => thn (h.run pins s I) fun u s1 ⟨H1, I1, q⟩ => ⟨H1, I1, hm _ _ q⟩⟩
theorem wA_mono {R R' : List V → Hp → Prop} (hm : ∀ v H', R v H' → R' v H') (h : wA X es σ H R) : wA X es σ H R' := ⟨fun pos pins s I => thn (h.run pos pins s I) fun u s1 ⟨v, H1, I1, r, q⟩ => ⟨v, H1, I1, r, hm _ _ q⟩⟩
theorem wI_mono {tg it : Expr} {R R' : It → Hp → Prop} (hm : ∀ v H', R v H' → R' v H') (h : wI X tg it σ H R) : wI X tg it σ H R' := ⟨fun pins s I => thn (h.run pins s I) fun v s1 q => thn q fun itv s2 ⟨it, fp, tn, J, H', e1, I1, T, t0, ff, q⟩ => ⟨it, fp, tn, J, H', e1, I1, T, t0, ff, hm _ _ q⟩⟩
theorem wG_mono {tg : Expr} {v : V} {R R' : L2.St → Hp → Prop} (hm : ∀ v H', R v H' → R' v H') (h : wG X tg v σ H R) : wG X tg v σ H R' := ⟨fun pins s u I r => thn (h.run pins s u I r) fun _ s1 ⟨σ', H1, I1, q⟩ => ⟨σ', H1, I1, hm _ _ q⟩⟩
theorem wS_mono {nx nx' : L2.St → Hp → Prop} {rt rt' : VK} {bk bk' ct ct' : L2.St → Hp → Prop} (hm : ∀ v H', nx v H' → nx' v H') (hr : ∀ v H', rt v H' → rt' v H') (hb : ∀ v H', bk v H' → bk' v H') (hc : ∀ v H', ct v H' → ct' v H') (h : wS X st nx rt bk ct σ H) : wS X st nx' rt' bk' ct' σ H := ⟨fun pins s I => thn (h.run pins s I) fun f s1 q => by
  cases f with
  | next => obtain ⟨σ', H', I', q⟩ := q; exact ⟨σ', H', I', hm _ _ q⟩
  | brk => obtain ⟨σ', H', I', q⟩ := q; exact ⟨σ', H', I', hb _ _ q⟩
  | cont => obtain ⟨σ', H', I', q⟩ := q; exact ⟨σ', H', I', hc _ _ q⟩
  | ret u => obtain ⟨v, σ', H', I', r, q⟩ := q; exact ⟨v, σ', H', I', r, hr _ _ q⟩⟩
theorem wSs_mono {nx nx' : L2.St → Hp → Prop} {rt rt' : VK} {bk bk' ct ct' : L2.St → Hp → Prop} (hm : ∀ v H', nx v H' → nx' v H') (hr : ∀ v H', rt v H' → rt' v H') (hb : ∀ v H', bk v H' → bk' v H') (hc : ∀ v H', ct v H' → ct' v H') (h : wSs X sts nx rt bk ct σ H) : wSs X sts nx' rt' bk' ct' σ H := ⟨fun pins s I => thn (h.run pins s I) fun f s1 q => by
  cases f with
  | next => obtain ⟨σ', H', I', q⟩ := q; exact ⟨σ', H', I', hm _ _ q⟩
  | brk => obtain ⟨σ', H', I', q⟩ := q; exact ⟨σ', H', I', hb _ _ q⟩
  | cont => obtain ⟨σ', H', I', q⟩ := q; exact ⟨σ', H', I', hc _ _ q⟩
  | ret u => obtain ⟨v, σ', H', I', r, q⟩ := q; exact ⟨v, σ', H', I', r, hr _ _ q⟩⟩
end

/-! ### where one stands -/
structure Kx (X : Cx) (P : Program) (w : World) (K : PySem.W.Frag) (mg : Str → Option Value) (base : Heap) (N : List Str) (sc : Scope) (k : Nat) (lv : Bool) : Prop where
  eprog : X.prog = P
  ew : X.w = w
  eK : X.K = K
  emg : X.mg = mg
  ebase : X.base = base
  eN : X.N = N
  esc : X.env.scope = sc
  nd : N.Nodup
  kind : sc.kind = .function
  calm : X.calm = true
  room : Room k X.A
  own : PassesOwn (model X.prog X.w) X.A X.env X.xe
  fn : lv = true → ∀ x, X.fn x = true
/-- a def that may be called by its name -/
structure Cal (P : Program) (w : World) (K : PySem.W.Frag) (mg : Str → Option Value) (base : Heap) (k : Nat) (x : Str) (sp : Sp) : Prop where
  ex : ∃ (f : Addr) (fd : FuncData) (ps : List Str), FnOk P w K mg base CX0 k f fd ps sp ∧ mg x = some (.ref f) ∧ PySem.W.keepIn K (.ref f) = true ∧ Binds K fd ps []
/-- a def of the module, under its name -/
structure Def (K : PySem.W.Frag) (mg : Str → Option Value) (x : Str) (st : Stmt) (f : Addr) (fd : FuncData) : Prop where
  fn : Fun K x x st f fd
  mgf : mg x = some (.ref f)
/-- what a module's name holds -/
def GV (mg : Str → Option Value) (x : Str) (v : V) : Prop := ∃ u, mg x = some u ∧ RelV v u

section
variable {X : Cx} {P : Program} {w : World} {K : PySem.W.Frag} {mg : Str → Option Value} {base : Heap} {N : List Str} {sc : Scope} {k : Nat} {lv : Bool}
theorem Kx.gl (C : Kx X P w K mg base N sc k lv) {x : Str} (h : sc.names.lookup x = some .globalImplicit) : Gl X x := by
  unfold Gl Env.kindOf
  rw [C.esc]
  exact h
theorem Kx.vis (C : Kx X P w K mg base N sc k lv) {x : Str} (h : Vis sc x) : Vis X.env.scope x := by rw [C.esc]; exact h
theorem Kx.loc (C : Kx X P w K mg base N sc k lv) {x : Str} (h : Loc sc x) : Loc X.env.scope x := by rw [C.esc]; exact h
/-- a name that may be stored to -/
def Sto (sc : Scope) (lv : Bool) (x : Str) : Prop := sc.names.lookup x = some .local ∨ (sc.names.lookup x = some .cell ∧ lv = true)
theorem Sto.loc {x : Str} (h : Sto sc lv x) : Loc sc x := by
  rcases h with h | h
  · exact .inl h
  · exact .inr h.1
theorem Kx.hf (C : Kx X P w K mg base N sc k lv) {x : Str} (h : Sto sc lv x) : X.fn x = true ∨ X.env.scope.names.lookup x = some .local := by
  rw [C.esc]
  rcases h with h | h
  · exact .inr h
  · exact .inl (C.fn h.2 x)
theorem Kx.ndX (C : Kx X P w K mg base N sc k lv) : X.N.Nodup := by rw [C.eN]; exact C.nd
theorem Kx.at (C : Kx X P w K mg base N sc k lv) {i : Nat} {x : Str} (h : N[i]? = some x) : X.N[i]? = some x := by rw [C.eN]; exact h
theorem Kx.u64 (C : Kx X P w K mg base N sc k lv) : X.A.units + 64 < cLine := C.room.units
theorem Kx.u1 (C : Kx X P w K mg base N sc k lv) : X.A.units + 1 < cLine := hu_of C.room
theorem Kx.u0 (C : Kx X P w K mg base N sc k lv) : X.A.units < cLine := C.room.units0
theorem Kx.mono {j : Nat} (C : Kx X P w K mg base N sc k lv) (h : j ≤ k) : Kx X P w K mg base N sc j lv :=
  ⟨C.eprog, C.ew, C.eK, C.emg, C.ebase, C.eN, C.esc, C.nd, C.kind, C.calm, C.room.mono h, C.own, C.fn⟩

/-- THE RULE for a def -/
theorem cal_of {x : Str} {st : Stmt} {f : Addr} {fd : FuncData} {ps : List Str} {sp : Sp} (N : List Str) (F : Def K mg x st f fd) (b : Binds K fd ps []) (S : FnScope N ps (defScope st)) (len : ∀ vs H Q E, sp vs H Q E → vs.length = ps.length)
    (hbody : ∀ (X : Cx) (H : Hp) (vs : List V) (Q : VK) (E : XK), Kx X P w K mg base N (defScope st) k true → sp vs H Q E →
      wSs X (defBody st) (fun _ H' => Q .non H') Q (fun _ _ => False) (fun _ _ => False) (start N vs) H) : Cal P w K mg base (k + 1) x sp := by
  refine ⟨f, fd, ps, F.fn.ok S len fun cdv A outer s H vs Q E hr hsp => ⟨_, pssW, ?_⟩, F.mgf, F.fn.kp, b⟩
  exact hbody _ H vs Q E ⟨rfl, rfl, rfl, rfl, rfl, rfl, rfl, S.nd, S.kind, rfl, hr, PassesOwn.never, fun _ _ => rfl⟩ hsp
end

/-! ### expressions -/
section
variable {X : Cx} {P : Program} {w : World} {K : PySem.W.Frag} {mg : Str → Option Value} {base : Heap} {N : List Str} {sc : Scope} {k : Nat} {lv : Bool}
variable {σ : L2.St} {H : Hp} {Q : VK} {pos p : Pos} {a b c e o : Expr} {es : List Expr}
theorem e_int {i : Int} {j : Nat} (h : Q (.int i) H) : wE X (.Constant (.int i) j pos) σ H Q := goE pe_int h
theorem e_bl {i : Bool} {j : Nat} (h : Q (.bl i) H) : wE X (.Constant (.bool i) j pos) σ H Q := goE pe_bl h
theorem e_non {j : Nat} (h : Q .non H) : wE X (.Constant .none j pos) σ H Q := goE pe_non h
theorem e_str {x : Str} {j : Nat} (h : Q (.str x) H) : wE X (.Constant (.str x) j pos) σ H Q := goE pe_str h
theorem e_var {i : Nat} {x : Str} {v : V} (C : Kx X P w K mg base N sc k lv) (hN : N[i]? = some x) (hs : σ[i]? = some (some v)) (hv : Vis sc x) (h : Q v H) (hd : (x == ("__debug__" : Str)) = false := by decide) (hcd : (x == ("__classdict__" : Str)) = false := by decide) :
    wE X (.Name x pos) σ H Q := goE (pe_var (C.at hN) (C.vis hv) hd hcd) ⟨v, hs, h⟩
theorem e_glob {x : Str} {v : V} (C : Kx X P w K mg base N sc k lv) (g : GV mg x v) (h : Q v H) (hg : sc.names.lookup x = some .globalImplicit := by rfl) (hd : (x == ("__debug__" : Str)) = false := by decide) : wE X (.Name x pos) σ H Q := by
  obtain ⟨u, hm, r⟩ := g
  exact goE (pe_glob (C.gl hg) (by rw [C.emg]; exact hm) r hd) h
theorem e_blt {x : Str} {v : V} {u : Value} (C : Kx X P w K mg base N sc k lv) (hm : mg x = none) (hv : bootBuiltins x = some u) (r : RelV v u) (h : Q v H) (hg : sc.names.lookup x = some .globalImplicit := by rfl) (hn : x ≠ "__name__" := by decide) (hd : (x == ("__debug__" : Str)) = false := by decide) :
    wE X (.Name x pos) σ H Q := goE (pe_bltn (C.gl hg) (by rw [C.emg]; exact hm) hv r hn hd) h
theorem e_bin {op : Operator} (h : wE X a σ H fun x H1 => wE X b σ H1 fun y H2 => wOp X (binaryOp op) x y H2 Q) : wE X (.BinOp a op b pos) σ H Q := goE (pe_op opW peW peW) h
theorem e_un {op : UnaryOp} (h : wE X a σ H fun x H1 => wUn X (unaryOp op) x H1 Q) : wE X (.UnaryOp op a pos) σ H Q := goE (pe_un unW peW) h
theorem e_cmp {op : CmpOp} (h : wE X a σ H fun x H1 => wE X b σ H1 fun y H2 => wOp X (compareOp op) x y H2 Q) (hm : behindInMarks op b = false := by first | exact nomark _ | rfl) : wE X (.Compare a [op] [b] pos) σ H Q := goE (pe_cmpR opW peW peW hm) h
theorem e_chain {op op' : CmpOp} (h : wE X a σ H fun x H1 => wE X b σ H1 fun y H2 => wOp X (compareOp op) x y H2 fun z H3 => ∃ k, z = .bl k ∧ (if k = true then wE X c σ H3 fun w' H4 => wOp X (compareOp op') y w' H4 Q else Q (.bl false) H3))
    (hm : lastMarks [op, op'] [b, c] = false := by with_unfolding_all rfl) : wE X (.Compare a [op, op'] [b, c] pos) σ H Q := goE (pe_chain opW opW peW peW peW hm) h
theorem e_one {op : BoolOp} (h : wE X a σ H Q) : wE X (.BoolOp op [a] pos) σ H Q := goE (pe_one peW) h
theorem e_and (h : wE X a σ H fun x H1 => ∃ c, x = .bl c ∧ if c = true then wE X (.BoolOp .And (b :: es) pos) σ H1 Q else Q (.bl false) H1) : wE X (.BoolOp .And (a :: b :: es) pos) σ H Q := goE (pe_and peW peW) h
theorem e_or (h : wE X a σ H fun x H1 => ∃ c, x = .bl c ∧ if c = true then Q (.bl true) H1 else wE X (.BoolOp .Or (b :: es) pos) σ H1 Q) : wE X (.BoolOp .Or (a :: b :: es) pos) σ H Q := goE (pe_or peW peW) h
theorem e_not (h : wE X a σ H fun x H1 => ∃ c, x = .bl c ∧ Q (.bl (!c)) H1) : wE X (.UnaryOp .Not a pos) σ H Q := goE (pe_not peW) h
theorem e_if (h : wT X c σ H fun t H1 => if t = true then wE X a σ H1 Q else wE X b σ H1 Q) : wE X (.IfExp c a b pos) σ H Q := goE (pe_ifExp ptW peW peW) h
/-! tests -/
variable {R : Bool → Hp → Prop}
theorem t_cmp {op : CmpOp} (h : wE X a σ H fun x H1 => wE X b σ H1 fun y H2 => wOp X (compareOp op) x y H2 fun z H3 => ∃ k, z = .bl k ∧ R k H3) (hm : behindInMarks op b = false := by first | exact nomark _ | rfl) : wT X (.Compare a [op] [b] pos) σ H R := goT (pt_cmpR opW peW peW hm) h
theorem t_chain {op op' : CmpOp} (h : wE X a σ H fun x H1 => wE X b σ H1 fun y H2 => wOp X (compareOp op) x y H2 fun z H3 => ∃ k, z = .bl k ∧ (if k = true then wE X c σ H3 fun w' H4 => wOp X (compareOp op') y w' H4 (fun z H' => ∃ k, z = .bl k ∧ R k H') else (∃ k, V.bl false = .bl k ∧ R k H3)))
    (hm : lastMarks [op, op'] [b, c] = false := by with_unfolding_all rfl) : wT X (.Compare a [op, op'] [b, c] pos) σ H R := goT (pt_chain opW opW peW peW peW hm) h
theorem t_w (h : wW X e σ H R) : wT X e σ H R := ⟨fun pins s I => h.run _ pins s I⟩
theorem t_and (h : wT X a σ H fun c H1 => if c = true then wW X (.BoolOp .And (b :: es) pos) σ H1 R else R false H1) : wW X (.BoolOp .And (a :: b :: es) pos) σ H R := goW (pw_and ptW pwW) h
theorem t_or (h : wT X a σ H fun c H1 => if c = true then R true H1 else wW X (.BoolOp .Or (b :: es) pos) σ H1 R) : wW X (.BoolOp .Or (a :: b :: es) pos) σ H R := goW (pw_or ptW pwW) h
theorem t_and1 (h : wT X a σ H R) : wW X (.BoolOp .And [a] pos) σ H R := goW (pw_and1 ptW) h
theorem t_or1 (h : wT X a σ H R) : wW X (.BoolOp .Or [a] pos) σ H R := goW (pw_or1 ptW) h
theorem t_not (h : wT X a σ H fun c H1 => R (!c) H1) : wT X (.UnaryOp .Not a pos) σ H R := goT (pt_not ptW) h
/-- a call, a name whose value is a bool, as a test -/
theorem t_val (h : wE X e σ H fun x H1 => ∃ c, x = .bl c ∧ R c H1) (he : ∀ whole, isTrue e X.env whole = (do let v ← whole; standAt e.pos; holding [v] (truthy v)) := by intro _; rfl) : wT X e σ H R := goT (pt_val peW he) h
theorem t_tru (h : wE X e σ H fun x H1 => ∃ k, TruV X.K x H1 k ∧ R k H1) (he : ∀ whole, isTrue e X.env whole = (do let v ← whole; standAt e.pos; holding [v] (truthy v)) := by intro _; rfl) : wT X e σ H R := goT (pt_truth peW he) h
/-! arguments, displays, calls -/
theorem a_nil {Q : List V → Hp → Prop} (h : Q [] H) : wA X [] σ H Q := goA pa_nil h
theorem a_cons {Q : List V → Hp → Prop} (h : wE X e σ H fun x H1 => wA X es σ H1 fun xs H2 => Q (x :: xs) H2) (hs : starEach (e :: es) X.env = (false, eval e X.env) :: starEach es X.env := by rfl) : wA X (e :: es) σ H Q := goA (pa_cons peW paW hs) h
theorem e_tup {x1 : Nat} (h : wA X es σ H fun xs H1 => xs.length ≤ sizeLine ∧ ∀ p, H1 p = none → Q (.ref p) (upd H1 p (.tup xs))) : wE X (.Tuple es x1 pos) σ H Q := goE (pe_tup paW) h
theorem e_lst (h : wA X es σ H fun xs H1 => xs.length ≤ sizeLine ∧ ∀ p, H1 p = none → Q (.ref p) (upd H1 p (.lst xs))) : wE X (.List es pos) σ H Q := goE (pe_lst paW) h
theorem e_call {x : Str} {j : Nat} {sp : Sp} (C : Kx X P w K mg base N sc k lv) (c : Cal P w K mg base j x sp) (h : wA X (e :: es) σ H fun vs H1 => sp vs H1 Q E0) (hk : j ≤ k := by decide) (hg : sc.names.lookup x = some .globalImplicit := by rfl) (hdb : (x == ("__debug__" : Str)) = false := by decide)
    (he : starEach (e :: es) X.env = (false, eval e X.env) :: starEach es X.env := by rfl) (hpl : (backTo pos (starEach es X.env)).any (·.1) = false := by rfl) : wE X (.Call (.Name x p) (e :: es) [] pos) σ H Q := by
  have e1 := C.eprog; have e2 := C.ew; have e3 := C.eK; have e4 := C.emg; have e5 := C.ebase
  subst e1 e2 e3 e4 e5
  obtain ⟨f, fd, ps, F, hm, kp, b⟩ := c.ex
  refine goE (pe_call F (C.room.mono hk) (C.gl hg) hm kp b .nil pass0 paW hdb he hpl) ?_
  show wA X (e :: es) σ H fun vs H1 => sp (vs ++ []) H1 Q E0
  simp only [List.append_nil]
  exact h
theorem e_callB {x : Str} {id : String} (C : Kx X P w K mg base N sc k lv) (hm : mg x = none) (hv : bootBuiltins x = some (.builtin id)) (h : wA X (e :: es) σ H fun vs H1 => wC X (.builtin id) vs H1 Q) (hg : sc.names.lookup x = some .globalImplicit := by rfl) (hn : x ≠ "__name__" := by decide) (hdb : (x == ("__debug__" : Str)) = false := by decide)
    (he : starEach (e :: es) X.env = (false, eval e X.env) :: starEach es X.env := by rfl) (hpl : (backTo pos (starEach es X.env)).any (·.1) = false := by rfl) : wE X (.Call (.Name x p) (e :: es) [] pos) σ H Q :=
  goE (pe_callB crW (C.gl hg) (by rw [C.emg]; exact hm) hv paW hn hdb he hpl) h
theorem e_callTy {x : Str} {T : String} (C : Kx X P w K mg base N sc k lv) (hm : mg x = none) (hv : bootBuiltins x = some (.type T)) (h : wA X (e :: es) σ H fun vs H1 => wC X (.type T) vs H1 Q) (hg : sc.names.lookup x = some .globalImplicit := by rfl) (hn : x ≠ "__name__" := by decide) (hdb : (x == ("__debug__" : Str)) = false := by decide)
    (he : starEach (e :: es) X.env = (false, eval e X.env) :: starEach es X.env := by rfl) (hpl : (backTo pos (starEach es X.env)).any (·.1) = false := by rfl) : wE X (.Call (.Name x p) (e :: es) [] pos) σ H Q :=
  goE (pe_callTy crW (C.gl hg) (by rw [C.emg]; exact hm) hv paW hn hdb he hpl) h
/-- a[b] -/
theorem e_ix (h : wE X a σ H fun x H1 => wE X b σ H1 fun y H2 => wIx X x y H2 Q) (hs : PlainIx b := by exact fun _ _ => rfl) : wE X (.Subscript a b pos) σ H Q := goE (pe_ix ixW peW peW hs) h
theorem e_sl {lo hi : Option Expr} {p2 : Pos} (h : wE X e σ H fun x H1 => wO X lo σ H1 fun l H2 => wO X hi σ H2 fun u H3 => wSl X x l u H3 Q) : wE X (.Subscript e (.Slice lo hi none p2) pos) σ H Q := goE (pe_slice slW peW poW poW) h
theorem o_none {Q : Option Int → Hp → Prop} (h : Q none H) : wO X none σ H Q := goO po_none h
theorem o_some {Q : Option Int → Hp → Prop} (h : wE X e σ H fun x H1 => ∃ i, x = .int i ∧ Q (some i) H1) : wO X (some e) σ H Q := goO (po_some peW) h
theorem e_bm {T : String} {name : Str} {id : String} {apos cpos : Pos} (pa : PlainAttrs T) (slot : Slot T name id) (hty : typeOf (.builtin id) = pure (.type "method_descriptor")) (h : wE X o σ H fun x H1 => tyV X.K T x H1 ∧ wA X (e :: es) σ H1 fun xs H2 => wM X id x xs H2 Q)
    (hbase : attributeBase o name X.env (eval o X.env) = eval o X.env := by rfl)
    (hfew : ((backTo cpos (starEach (e :: es) X.env)).all (fun x => !x.1) && (backToKw cpos (keywordEach [] X.env)).all (fun x => x.1.isSome)
      && decide ((e :: es).length + ([] : List Keyword).length + (if ([] : List Keyword).isEmpty then 0 else 1) < 30)) = true := by rfl)
    (hline : (apos.endLine == cpos.line) = true := by rfl) (hs : starEach (e :: es) X.env = (false, eval e X.env) :: starEach es X.env := by rfl) (hplain : (backTo cpos (starEach es X.env)).any (·.1) = false := by rfl) :
    wE X (.Call (.Attribute o name apos) (e :: es) [] cpos) σ H Q := goE (pe_bm pa slot hty mtW peW paW hbase hfew hline hs hplain) h
theorem e_bm0 {T : String} {name : Str} {id : String} {apos cpos : Pos} (pa : PlainAttrs T) (slot : Slot T name id) (hty : typeOf (.builtin id) = pure (.type "method_descriptor")) (h : wE X o σ H fun x H1 => tyV X.K T x H1 ∧ wM X id x [] H1 Q)
    (hbase : attributeBase o name X.env (eval o X.env) = eval o X.env := by rfl) (hline : (apos.endLine == cpos.line) = true := by rfl) : wE X (.Call (.Attribute o name apos) [] [] cpos) σ H Q := goE (pe_bm0 pa slot hty mtW peW hbase hline) h
end
/-! ### statements -/
section
variable {X : Cx} {P : Program} {w : World} {K : PySem.W.Frag} {mg : Str → Option Value} {base : Heap} {N : List Str} {sc : Scope} {k : Nat} {lv : Bool}
variable {σ : L2.St} {H : Hp} {pos p : Pos} {a b c e o tg : Expr} {es : List Expr} {st : Stmt} {rest : List Stmt} {nx : L2.St → Hp → Prop} {rt : VK} {bk ct : L2.St → Hp → Prop}
theorem ss_nil (h : nx σ H) : wSs X [] nx rt bk ct σ H := goSs pss_nil h
theorem ss_cons (h : wS X st (fun σ' H' => wSs X rest nx rt bk ct σ' H') rt bk ct σ H) : wSs X (st :: rest) nx rt bk ct σ H := goSs (pss_cons psW pssW) h
theorem ss_one (h : wS X st nx rt bk ct σ H) : wSs X [st] nx rt bk ct σ H := goSs (pss_one psW) h
/-- a statement, then the rest, with a word between -/
theorem ss_cut (Mid : L2.St → Hp → Prop) (h : wS X st Mid rt bk ct σ H) (h2 : ∀ σ' H', Mid σ' H' → wSs X rest nx rt bk ct σ' H') : wSs X (st :: rest) nx rt bk ct σ H :=
  ss_cons ⟨fun pins s I => thn (h.run pins s I) fun f s1 q => by
    cases f with
    | next =>
      obtain ⟨σ', H', I', q⟩ := q
      exact ⟨σ', H', I', h2 σ' H' q⟩
    | brk => exact q
    | cont => exact q
    | ret u => exact q⟩
theorem s_pass (h : nx σ H) : wS X (.Pass pos) nx rt bk ct σ H := goS ps_pass h
theorem s_break (h : bk σ H) : wS X (.Break pos) nx rt bk ct σ H := goS ps_break h
theorem s_cont (h : ct σ H) : wS X (.Continue pos) nx rt bk ct σ H := goS ps_continue h
theorem s_expr (h : wE X e σ H fun _ H1 => nx σ H1) (hs : swapsWith e none pos.line X.env = pure false := by rfl) : wS X (.Expr e pos) nx rt bk ct σ H := goS (ps_expr peW hs) h
theorem s_ret (h : wE X e σ H rt) : wS X (.Return (some e) pos) nx rt bk ct σ H := goS (ps_ret peW) h
theorem s_retN (h : rt .non H) : wS X (.Return none pos) nx rt bk ct σ H := goS ps_retN h
theorem s_if {u v : List Stmt} (h : wT X c σ H fun t H1 => if t = true then wSs X u nx rt bk ct σ H1 else wSs X v nx rt bk ct σ H1) : wS X (.If c u v pos) nx rt bk ct σ H := goS (ps_if ptW pssW pssW) h
theorem s_asg (h : wE X e σ H fun x H1 => wG X tg x σ H1 nx) (hs : swapsWithSole [tg] e pos.line X.env = pure false := by rfl) (hw : swappedStores [tg] e X.env = pure none := by rfl) (h1 : (assignEach [tg] X.env).map (·.2) = [assign tg X.env] := by rfl) :
    wS X (.Assign [tg] e pos) nx rt bk ct σ H := goS (ps_asg peW pgW hs hw h1) h
/-- targets -/
theorem g_name {Q : L2.St → Hp → Prop} {v : V} {i : Nat} {x : Str} (C : Kx X P w K mg base N sc k lv) (hN : N[i]? = some x) (hx : Sto sc lv x) (h : Q (σ.set i (some v)) H) : wG X (.Name x pos) v σ H Q := goG (pg_name C.ndX (C.at hN) (C.loc hx.loc) (C.hf hx)) h
theorem g_tup {Q : L2.St → Hp → Prop} {v : V} {j n : Nat} {ad : Addr} {xs : List V} (C : Kx X P w K mg base N sc k lv) (hv : v = .ref ad) (hq : SqT K H ad xs) (hl : xs.length = n) (h : wGs X es xs σ H Q) (hn : (assignEach es X.env).length = n := by rfl) (hst : (assignEach es X.env).findIdx? (·.1) = none := by rfl) : wG X (.Tuple es j pos) v σ H Q := by
  have e3 := C.eK
  subst e3
  exact goG (pg_tup C.calm pgsW hn hst) ⟨ad, xs, hv, hq, hl, h⟩
theorem gs_nil {Q : L2.St → Hp → Prop} (h : Q σ H) : wGs X [] [] σ H Q := goGs pgs_nil ⟨rfl, h⟩
theorem gs_cons {Q : L2.St → Hp → Prop} {v : V} {vs : List V} (h : wG X e v σ H fun σ' H' => wGs X es vs σ' H' Q) (hs : (assignEach (e :: es) X.env).map (·.2) = assign e X.env :: (assignEach es X.env).map (·.2) := by rfl) : wGs X (e :: es) (v :: vs) σ H Q := goGs (pgs_cons pgW pgsW hs) ⟨v, vs, rfl, h⟩
theorem g_sub {Q : L2.St → Hp → Prop} {v : V} {i : Expr} (h : wE X o σ H fun ov H1 => wE X i σ H1 fun iv H2 => ∃ p xs k j, ov = .ref p ∧ iv = .int k ∧ H2 p = some (.lst xs) ∧ ixN xs.length k = some j ∧ Q σ (upd H2 p (.lst (xs.set j v))))
    (ha : ∀ v, assign (.Subscript o i pos) X.env v = (do
      let ov ← holding [v] (eval o X.env)
      let iv ← holding [v, ov] (eval i X.env)
      standAt pos
      holding [v, ov, iv] (setItem ov iv v)
      release [v, ov, iv] []) := by intro _; rfl) : wG X (.Subscript o i pos) v σ H Q := goG (pg_sub peW peW set_list ha) h
theorem s_par {i j : Nat} {x y : Str} {px py pt pt2 : Pos} {kt k2 : Nat} (C : Kx X P w K mg base N sc k lv) (h : wE X a σ H fun v H1 => wE X b σ H1 fun u H2 => nx ((σ.set i (some v)).set j (some u)) H2) (hi : N[i]? = some x) (hj : N[j]? = some y) (hij : i ≠ j)
    (hx : sc.names.lookup x = some .local) (hy : sc.names.lookup y = some .local)
    (hw : swappedStores [.Tuple [.Name x px, .Name y py] kt pt] (.Tuple [a, b] k2 pt2) X.env = pure (some [x, y]))
    (hs : swapsWithSole [.Tuple [.Name x px, .Name y py] kt pt] (.Tuple [a, b] k2 pt2) pos.line X.env = pure false := by rfl) (hs1 : starEach [a, b] X.env = (false, eval a X.env) :: starEach [b] X.env := by rfl) (hs2 : starEach [b] X.env = (false, eval b X.env) :: starEach [] X.env := by rfl) :
    wS X (.Assign [.Tuple [.Name x px, .Name y py] kt pt] (.Tuple [a, b] k2 pt2) pos) nx rt bk ct σ H :=
  goS (ps_par C.calm C.ndX (C.at hi) (C.at hj) hij (by rw [C.esc]; exact hx) (by rw [C.esc]; exact hy) (pa_cons peW (pa_cons peW pa_nil hs2) hs1) hw hs)
    (show wE X a σ H fun v H1 => wE X b σ H1 fun u H2 => ∃ v' w', [v, u] = [v', w'] ∧ nx ((σ.set i (some v')).set j (some w')) H2 from wE_mono (fun v H1 q => wE_mono (fun u' H2 q2 => ⟨v, u', rfl, q2⟩) q) h)
theorem s_aug {i : Nat} {x : Str} {op : Operator} {v : V} {pos' : Pos} (C : Kx X P w K mg base N sc k lv) (hi : N[i]? = some x) (hx : Sto sc lv x) (hv : σ[i]? = some (some v)) (h : wE X e σ H fun y H1 => wOp X (inplaceOp op) v y H1 fun z H2 => nx (σ.set i (some z)) H2) :
    wS X (.AugAssign (.Name x pos') op e pos) nx rt bk ct σ H :=
  goS (ps_aug (ti := wOp X (inplaceOp op)) C.ndX (C.at hi) (C.loc hx.loc) peW (fun pins s σ H x y v u Q I rx ry h => h.run pins s σ v u I rx ry) (C.hf hx)) ⟨v, hv, h⟩
/-- for -/
theorem s_for {iter : Expr} {body : List Stmt} (C : Kx X P w K mg base N sc k lv) (h : wI X tg iter σ H fun J H1 => ∃ W : Nat → Nat → L2.St → Hp → Prop, (∃ m, W 0 m σ H1) ∧ ∀ i m σ H, W i m σ H →
      (J.stop i H ∧ nx σ H) ∨ (J.go i H ∧ ∃ N : L2.St → Hp → Prop, (∀ σ' H', N σ' H' → ∃ m', m' < m ∧ W (i + 1) m' σ' H') ∧ ∀ x H', J.yld i H x H' → wG X tg x σ H' fun σ2 H2 => wSs X body N rt nx N σ2 H2))
    (hs : ∀ x, foldedSetIterable iter X.env x = pure x := by intro _; rfl) : wS X (.For tg iter body [] pos) nx rt bk ct σ H := goS (ps_for C.own C.calm piW pgW pssW hs) h
theorem s_while {body : List Stmt} (C : Kx X P w K mg base N sc k lv) (W : Nat → L2.St → Hp → Prop) (h0 : ∃ m, W m σ H) (hw : ∀ m σ H, W m σ H →
  wT X c σ H fun b H1 => if b = true then ∃ N : L2.St → Hp → Prop, (∀ σ' H', N σ' H' → ∃ m', m' < m ∧ W m' σ' H') ∧ wSs X body N rt nx N σ H1 else nx σ H1) : wS X (.While c body [] pos) nx rt bk ct σ H := goS (ps_while C.own ptW pssW) ⟨W, h0, hw⟩
/-- never come to -/
theorem s_never (h : False) : wS X st nx rt bk ct σ H := h.elim
end
end DP
set_option Elab.async false
set_option linter.all false
set_option maxRecDepth 100000
set_option maxHeartbeats 1000000
namespace DP
open PySem L2
section
variable {X : Cx} {P : Program} {w : World} {K : PySem.W.Frag} {mg : Str → Option Value} {base : Heap} {N : List Str} {sc : Scope} {k : Nat} {lv : Bool}
variable {σ : L2.St} {H : Hp} {Q : VK} {pos p : Pos}
theorem v0 {x : Str} {r : List Str} {t : L2.St} {v : V} (C : Kx X P w K mg base (x :: r) sc k lv) (h : Q v H) (hv : Vis sc x := by first | exact Or.inl rfl | exact Or.inr (Or.inl rfl) | exact Or.inr (Or.inr rfl)) (hd : (x == ("__debug__" : Str)) = false := by decide) (hcd : (x == ("__classdict__" : Str)) = false := by decide) : wE X (.Name x pos) (some v :: t) H Q := e_var (i := 0) C rfl rfl hv h hd hcd
theorem g0 {x : Str} {r : List Str} {o : Option V} {t : L2.St} {v : V} {Q : L2.St → Hp → Prop} (C : Kx X P w K mg base (x :: r) sc k lv) (h : Q (some v :: t) H) (hx : Sto sc lv x := by first | exact Or.inl rfl | exact Or.inr ⟨rfl, rfl⟩) : wG X (.Name x pos) v (o :: t) H Q := g_name (i := 0) C rfl hx h
theorem v1 {x : Str} {r : List Str} {n0 : Str} {o0 : Option V} {t : L2.St} {v : V} (C : Kx X P w K mg base (n0 :: x :: r) sc k lv) (h : Q v H) (hv : Vis sc x := by first | exact Or.inl rfl | exact Or.inr (Or.inl rfl) | exact Or.inr (Or.inr rfl)) (hd : (x == ("__debug__" : Str)) = false := by decide) (hcd : (x == ("__classdict__" : Str)) = false := by decide) : wE X (.Name x pos) (o0 :: some v :: t) H Q := e_var (i := 1) C rfl rfl hv h hd hcd
theorem g1 {x : Str} {r : List Str} {n0 : Str} {o0 : Option V} {o : Option V} {t : L2.St} {v : V} {Q : L2.St → Hp → Prop} (C : Kx X P w K mg base (n0 :: x :: r) sc k lv) (h : Q (o0 :: some v :: t) H) (hx : Sto sc lv x := by first | exact Or.inl rfl | exact Or.inr ⟨rfl, rfl⟩) : wG X (.Name x pos) v (o0 :: o :: t) H Q := g_name (i := 1) C rfl hx h
theorem v2 {x : Str} {r : List Str} {n0 n1 : Str} {o0 o1 : Option V} {t : L2.St} {v : V} (C : Kx X P w K mg base (n0 :: n1 :: x :: r) sc k lv) (h : Q v H) (hv : Vis sc x := by first | exact Or.inl rfl | exact Or.inr (Or.inl rfl) | exact Or.inr (Or.inr rfl)) (hd : (x == ("__debug__" : Str)) = false := by decide) (hcd : (x == ("__classdict__" : Str)) = false := by decide) : wE X (.Name x pos) (o0 :: o1 :: some v :: t) H Q := e_var (i := 2) C rfl rfl hv h hd hcd
theorem g2 {x : Str} {r : List Str} {n0 n1 : Str} {o0 o1 : Option V} {o : Option V} {t : L2.St} {v : V} {Q : L2.St → Hp → Prop} (C : Kx X P w K mg base (n0 :: n1 :: x :: r) sc k lv) (h : Q (o0 :: o1 :: some v :: t) H) (hx : Sto sc lv x := by first | exact Or.inl rfl | exact Or.inr ⟨rfl, rfl⟩) : wG X (.Name x pos) v (o0 :: o1 :: o :: t) H Q := g_name (i := 2) C rfl hx h
theorem v3 {x : Str} {r : List Str} {n0 n1 n2 : Str} {o0 o1 o2 : Option V} {t : L2.St} {v : V} (C : Kx X P w K mg base (n0 :: n1 :: n2 :: x :: r) sc k lv) (h : Q v H) (hv : Vis sc x := by first | exact Or.inl rfl | exact Or.inr (Or.inl rfl) | exact Or.inr (Or.inr rfl)) (hd : (x == ("__debug__" : Str)) = false := by decide) (hcd : (x == ("__classdict__" : Str)) = false := by decide) : wE X (.Name x pos) (o0 :: o1 :: o2 :: some v :: t) H Q := e_var (i := 3) C rfl rfl hv h hd hcd
theorem g3 {x : Str} {r : List Str} {n0 n1 n2 : Str} {o0 o1 o2 : Option V} {o : Option V} {t : L2.St} {v : V} {Q : L2.St → Hp → Prop} (C : Kx X P w K mg base (n0 :: n1 :: n2 :: x :: r) sc k lv) (h : Q (o0 :: o1 :: o2 :: some v :: t) H) (hx : Sto sc lv x := by first | exact Or.inl rfl | exact Or.inr ⟨rfl, rfl⟩) : wG X (.Name x pos) v (o0 :: o1 :: o2 :: o :: t) H Q := g_name (i := 3) C rfl hx h
theorem v4 {x : Str} {r : List Str} {n0 n1 n2 n3 : Str} {o0 o1 o2 o3 : Option V} {t : L2.St} {v : V} (C : Kx X P w K mg base (n0 :: n1 :: n2 :: n3 :: x :: r) sc k lv) (h : Q v H) (hv : Vis sc x := by first | exact Or.inl rfl | exact Or.inr (Or.inl rfl) | exact Or.inr (Or.inr rfl)) (hd : (x == ("__debug__" : Str)) = false := by decide) (hcd : (x == ("__classdict__" : Str)) = false := by decide) : wE X (.Name x pos) (o0 :: o1 :: o2 :: o3 :: some v :: t) H Q := e_var (i := 4) C rfl rfl hv h hd hcd
theorem g4 {x : Str} {r : List Str} {n0 n1 n2 n3 : Str} {o0 o1 o2 o3 : Option V} {o : Option V} {t : L2.St} {v : V} {Q : L2.St → Hp → Prop} (C : Kx X P w K mg base (n0 :: n1 :: n2 :: n3 :: x :: r) sc k lv) (h : Q (o0 :: o1 :: o2 :: o3 :: some v :: t) H) (hx : Sto sc lv x := by first | exact Or.inl rfl | exact Or.inr ⟨rfl, rfl⟩) : wG X (.Name x pos) v (o0 :: o1 :: o2 :: o3 :: o :: t) H Q := g_name (i := 4) C rfl hx h
theorem v5 {x : Str} {r : List Str} {n0 n1 n2 n3 n4 : Str} {o0 o1 o2 o3 o4 : Option V} {t : L2.St} {v : V} (C : Kx X P w K mg base (n0 :: n1 :: n2 :: n3 :: n4 :: x :: r) sc k lv) (h : Q v H) (hv : Vis sc x := by first | exact Or.inl rfl | exact Or.inr (Or.inl rfl) | exact Or.inr (Or.inr rfl)) (hd : (x == ("__debug__" : Str)) = false := by decide) (hcd : (x == ("__classdict__" : Str)) = false := by decide) : wE X (.Name x pos) (o0 :: o1 :: o2 :: o3 :: o4 :: some v :: t) H Q := e_var (i := 5) C rfl rfl hv h hd hcd
theorem g5 {x : Str} {r : List Str} {n0 n1 n2 n3 n4 : Str} {o0 o1 o2 o3 o4 : Option V} {o : Option V} {t : L2.St} {v : V} {Q : L2.St → Hp → Prop} (C : Kx X P w K mg base (n0 :: n1 :: n2 :: n3 :: n4 :: x :: r) sc k lv) (h : Q (o0 :: o1 :: o2 :: o3 :: o4 :: some v :: t) H) (hx : Sto sc lv x := by first | exact Or.inl rfl | exact Or.inr ⟨rfl, rfl⟩) : wG X (.Name x pos) v (o0 :: o1 :: o2 :: o3 :: o4 :: o :: t) H Q := g_name (i := 5) C rfl hx h
theorem v6 {x : Str} {r : List Str} {n0 n1 n2 n3 n4 n5 : Str} {o0 o1 o2 o3 o4 o5 : Option V} {t : L2.St} {v : V} (C : Kx X P w K mg base (n0 :: n1 :: n2 :: n3 :: n4 :: n5 :: x :: r) sc k lv) (h : Q v H) (hv : Vis sc x := by first | exact Or.inl rfl | exact Or.inr (Or.inl rfl) | exact Or.inr (Or.inr rfl)) (hd : (x == ("__debug__" : Str)) = false := by decide) (hcd : (x == ("__classdict__" : Str)) = false := by decide) : wE X (.Name x pos) (o0 :: o1 :: o2 :: o3 :: o4 :: o5 :: some v :: t) H Q := e_var (i := 6) C rfl rfl hv h hd hcd
theorem g6 {x : Str} {r : List Str} {n0 n1 n2 n3 n4 n5 : Str} {o0 o1 o2 o3 o4 o5 : Option V} {o : Option V} {t : L2.St} {v : V} {Q : L2.St → Hp → Prop} (C : Kx X P w K mg base (n0 :: n1 :: n2 :: n3 :: n4 :: n5 :: x :: r) sc k lv) (h : Q (o0 :: o1 :: o2 :: o3 :: o4 :: o5 :: some v :: t) H) (hx : Sto sc lv x := by first | exact Or.inl rfl | exact Or.inr ⟨rfl, rfl⟩) : wG X (.Name x pos) v (o0 :: o1 :: o2 :: o3 :: o4 :: o5 :: o :: t) H Q := g_name (i := 6) C rfl hx h
theorem v7 {x : Str} {r : List Str} {n0 n1 n2 n3 n4 n5 n6 : Str} {o0 o1 o2 o3 o4 o5 o6 : Option V} {t : L2.St} {v : V} (C : Kx X P w K mg base (n0 :: n1 :: n2 :: n3 :: n4 :: n5 :: n6 :: x :: r) sc k lv) (h : Q v H) (hv : Vis sc x := by first | exact Or.inl rfl | exact Or.inr (Or.inl rfl) | exact Or.inr (Or.inr rfl)) (hd : (x == ("__debug__" : Str)) = false := by decide) (hcd : (x == ("__classdict__" : Str)) = false := by decide) : wE X (.Name x pos) (o0 :: o1 :: o2 :: o3 :: o4 :: o5 :: o6 :: some v :: t) H Q := e_var (i := 7) C rfl rfl hv h hd hcd
theorem g7 {x : Str} {r : List Str} {n0 n1 n2 n3 n4 n5 n6 : Str} {o0 o1 o2 o3 o4 o5 o6 : Option V} {o : Option V} {t : L2.St} {v : V} {Q : L2.St → Hp → Prop} (C : Kx X P w K mg base (n0 :: n1 :: n2 :: n3 :: n4 :: n5 :: n6 :: x :: r) sc k lv) (h : Q (o0 :: o1 :: o2 :: o3 :: o4 :: o5 :: o6 :: some v :: t) H) (hx : Sto sc lv x := by first | exact Or.inl rfl | exact Or.inr ⟨rfl, rfl⟩) : wG X (.Name x pos) v (o0 :: o1 :: o2 :: o3 :: o4 :: o5 :: o6 :: o :: t) H Q := g_name (i := 7) C rfl hx h
theorem v8 {x : Str} {r : List Str} {n0 n1 n2 n3 n4 n5 n6 n7 : Str} {o0 o1 o2 o3 o4 o5 o6 o7 : Option V} {t : L2.St} {v : V} (C : Kx X P w K mg base (n0 :: n1 :: n2 :: n3 :: n4 :: n5 :: n6 :: n7 :: x :: r) sc k lv) (h : Q v H) (hv : Vis sc x := by first | exact Or.inl rfl | exact Or.inr (Or.inl rfl) | exact Or.inr (Or.inr rfl)) (hd : (x == ("__debug__" : Str)) = false := by decide) (hcd : (x == ("__classdict__" : Str)) = false := by decide) : wE X (.Name x pos) (o0 :: o1 :: o2 :: o3 :: o4 :: o5 :: o6 :: o7 :: some v :: t) H Q := e_var (i := 8) C rfl rfl hv h hd hcd
theorem g8 {x : Str} {r : List Str} {n0 n1 n2 n3 n4 n5 n6 n7 : Str} {o0 o1 o2 o3 o4 o5 o6 o7 : Option V} {o : Option V} {t : L2.St} {v : V} {Q : L2.St → Hp → Prop} (C : Kx X P w K mg base (n0 :: n1 :: n2 :: n3 :: n4 :: n5 :: n6 :: n7 :: x :: r) sc k lv) (h : Q (o0 :: o1 :: o2 :: o3 :: o4 :: o5 :: o6 :: o7 :: some v :: t) H) (hx : Sto sc lv x := by first | exact Or.inl rfl | exact Or.inr ⟨rfl, rfl⟩) : wG X (.Name x pos) v (o0 :: o1 :: o2 :: o3 :: o4 :: o5 :: o6 :: o7 :: o :: t) H Q := g_name (i := 8) C rfl hx h
theorem v9 {x : Str} {r : List Str} {n0 n1 n2 n3 n4 n5 n6 n7 n8 : Str} {o0 o1 o2 o3 o4 o5 o6 o7 o8 : Option V} {t : L2.St} {v : V} (C : Kx X P w K mg base (n0 :: n1 :: n2 :: n3 :: n4 :: n5 :: n6 :: n7 :: n8 :: x :: r) sc k lv) (h : Q v H) (hv : Vis sc x := by first | exact Or.inl rfl | exact Or.inr (Or.inl rfl) | exact Or.inr (Or.inr rfl)) (hd : (x == ("__debug__" : Str)) = false := by decide) (hcd : (x == ("__classdict__" : Str)) = false := by decide) : wE X (.Name x pos) (o0 :: o1 :: o2 :: o3 :: o4 :: o5 :: o6 :: o7 :: o8 :: some v :: t) H Q := e_var (i := 9) C rfl rfl hv h hd hcd
theorem g9 {x : Str} {r : List Str} {n0 n1 n2 n3 n4 n5 n6 n7 n8 : Str} {o0 o1 o2 o3 o4 o5 o6 o7 o8 : Option V} {o : Option V} {t : L2.St} {v : V} {Q : L2.St → Hp → Prop} (C : Kx X P w K mg base (n0 :: n1 :: n2 :: n3 :: n4 :: n5 :: n6 :: n7 :: n8 :: x :: r) sc k lv) (h : Q (o0 :: o1 :: o2 :: o3 :: o4 :: o5 :: o6 :: o7 :: o8 :: some v :: t) H) (hx : Sto sc lv x := by first | exact Or.inl rfl | exact Or.inr ⟨rfl, rfl⟩) : wG X (.Name x pos) v (o0 :: o1 :: o2 :: o3 :: o4 :: o5 :: o6 :: o7 :: o8 :: o :: t) H Q := g_name (i := 9) C rfl hx h
theorem v10 {x : Str} {r : List Str} {n0 n1 n2 n3 n4 n5 n6 n7 n8 n9 : Str} {o0 o1 o2 o3 o4 o5 o6 o7 o8 o9 : Option V} {t : L2.St} {v : V} (C : Kx X P w K mg base (n0 :: n1 :: n2 :: n3 :: n4 :: n5 :: n6 :: n7 :: n8 :: n9 :: x :: r) sc k lv) (h : Q v H) (hv : Vis sc x := by first | exact Or.inl rfl | exact Or.inr (Or.inl rfl) | exact Or.inr (Or.inr rfl)) (hd : (x == ("__debug__" : Str)) = false := by decide) (hcd : (x == ("__classdict__" : Str)) = false := by decide) : wE X (.Name x pos) (o0 :: o1 :: o2 :: o3 :: o4 :: o5 :: o6 :: o7 :: o8 :: o9 :: some v :: t) H Q := e_var (i := 10) C rfl rfl hv h hd hcd
theorem g10 {x : Str} {r : List Str} {n0 n1 n2 n3 n4 n5 n6 n7 n8 n9 : Str} {o0 o1 o2 o3 o4 o5 o6 o7 o8 o9 : Option V} {o : Option V} {t : L2.St} {v : V} {Q : L2.St → Hp → Prop} (C : Kx X P w K mg base (n0 :: n1 :: n2 :: n3 :: n4 :: n5 :: n6 :: n7 :: n8 :: n9 :: x :: r) sc k lv) (h : Q (o0 :: o1 :: o2 :: o3 :: o4 :: o5 :: o6 :: o7 :: o8 :: o9 :: some v :: t) H) (hx : Sto sc lv x := by first | exact Or.inl rfl | exact Or.inr ⟨rfl, rfl⟩) : wG X (.Name x pos) v (o0 :: o1 :: o2 :: o3 :: o4 :: o5 :: o6 :: o7 :: o8 :: o9 :: o :: t) H Q := g_name (i := 10) C rfl hx h
theorem v11 {x : Str} {r : List Str} {n0 n1 n2 n3 n4 n5 n6 n7 n8 n9 n10 : Str} {o0 o1 o2 o3 o4 o5 o6 o7 o8 o9 o10 : Option V} {t : L2.St} {v : V} (C : Kx X P w K mg base (n0 :: n1 :: n2 :: n3 :: n4 :: n5 :: n6 :: n7 :: n8 :: n9 :: n10 :: x :: r) sc k lv) (h : Q v H) (hv : Vis sc x := by first | exact Or.inl rfl | exact Or.inr (Or.inl rfl) | exact Or.inr (Or.inr rfl)) (hd : (x == ("__debug__" : Str)) = false := by decide) (hcd : (x == ("__classdict__" : Str)) = false := by decide) : wE X (.Name x pos) (o0 :: o1 :: o2 :: o3 :: o4 :: o5 :: o6 :: o7 :: o8 :: o9 :: o10 :: some v :: t) H Q := e_var (i := 11) C rfl rfl hv h hd hcd
theorem g11 {x : Str} {r : List Str} {n0 n1 n2 n3 n4 n5 n6 n7 n8 n9 n10 : Str} {o0 o1 o2 o3 o4 o5 o6 o7 o8 o9 o10 : Option V} {o : Option V} {t : L2.St} {v : V} {Q : L2.St → Hp → Prop} (C : Kx X P w K mg base (n0 :: n1 :: n2 :: n3 :: n4 :: n5 :: n6 :: n7 :: n8 :: n9 :: n10 :: x :: r) sc k lv) (h : Q (o0 :: o1 :: o2 :: o3 :: o4 :: o5 :: o6 :: o7 :: o8 :: o9 :: o10 :: some v :: t) H) (hx : Sto sc lv x := by first | exact Or.inl rfl | exact Or.inr ⟨rfl, rfl⟩) : wG X (.Name x pos) v (o0 :: o1 :: o2 :: o3 :: o4 :: o5 :: o6 :: o7 :: o8 :: o9 :: o10 :: o :: t) H Q := g_name (i := 11) C rfl hx h
theorem v12 {x : Str} {r : List Str} {n0 n1 n2 n3 n4 n5 n6 n7 n8 n9 n10 n11 : Str} {o0 o1 o2 o3 o4 o5 o6 o7 o8 o9 o10 o11 : Option V} {t : L2.St} {v : V} (C : Kx X P w K mg base (n0 :: n1 :: n2 :: n3 :: n4 :: n5 :: n6 :: n7 :: n8 :: n9 :: n10 :: n11 :: x :: r) sc k lv) (h : Q v H) (hv : Vis sc x := by first | exact Or.inl rfl | exact Or.inr (Or.inl rfl) | exact Or.inr (Or.inr rfl)) (hd : (x == ("__debug__" : Str)) = false := by decide) (hcd : (x == ("__classdict__" : Str)) = false := by decide) : wE X (.Name x pos) (o0 :: o1 :: o2 :: o3 :: o4 :: o5 :: o6 :: o7 :: o8 :: o9 :: o10 :: o11 :: some v :: t) H Q := e_var (i := 12) C rfl rfl hv h hd hcd
theorem g12 {x : Str} {r : List Str} {n0 n1 n2 n3 n4 n5 n6 n7 n8 n9 n10 n11 : Str} {o0 o1 o2 o3 o4 o5 o6 o7 o8 o9 o10 o11 : Option V} {o : Option V} {t : L2.St} {v : V} {Q : L2.St → Hp → Prop} (C : Kx X P w K mg base (n0 :: n1 :: n2 :: n3 :: n4 :: n5 :: n6 :: n7 :: n8 :: n9 :: n10 :: n11 :: x :: r) sc k lv) (h : Q (o0 :: o1 :: o2 :: o3 :: o4 :: o5 :: o6 :: o7 :: o8 :: o9 :: o10 :: o11 :: some v :: t) H) (hx : Sto sc lv x := by first | exact Or.inl rfl | exact Or.inr ⟨rfl, rfl⟩) : wG X (.Name x pos) v (o0 :: o1 :: o2 :: o3 :: o4 :: o5 :: o6 :: o7 :: o8 :: o9 :: o10 :: o11 :: o :: t) H Q := g_name (i := 12) C rfl hx h
theorem v13 {x : Str} {r : List Str} {n0 n1 n2 n3 n4 n5 n6 n7 n8 n9 n10 n11 n12 : Str} {o0 o1 o2 o3 o4 o5 o6 o7 o8 o9 o10 o11 o12 : Option V} {t : L2.St} {v : V} (C : Kx X P w K mg base (n0 :: n1 :: n2 :: n3 :: n4 :: n5 :: n6 :: n7 :: n8 :: n9 :: n10 :: n11 :: n12 :: x :: r) sc k lv) (h : Q v H) (hv : Vis sc x := by first | exact Or.inl rfl | exact Or.inr (Or.inl rfl) | exact Or.inr (Or.inr rfl)) (hd : (x == ("__debug__" : Str)) = false := by decide) (hcd : (x == ("__classdict__" : Str)) = false := by decide) : wE X (.Name x pos) (o0 :: o1 :: o2 :: o3 :: o4 :: o5 :: o6 :: o7 :: o8 :: o9 :: o10 :: o11 :: o12 :: some v :: t) H Q := e_var (i := 13) C rfl rfl hv h hd hcd
theorem g13 {x : Str} {r : List Str} {n0 n1 n2 n3 n4 n5 n6 n7 n8 n9 n10 n11 n12 : Str} {o0 o1 o2 o3 o4 o5 o6 o7 o8 o9 o10 o11 o12 : Option V} {o : Option V} {t : L2.St} {v : V} {Q : L2.St → Hp → Prop} (C : Kx X P w K mg base (n0 :: n1 :: n2 :: n3 :: n4 :: n5 :: n6 :: n7 :: n8 :: n9 :: n10 :: n11 :: n12 :: x :: r) sc k lv) (h : Q (o0 :: o1 :: o2 :: o3 :: o4 :: o5 :: o6 :: o7 :: o8 :: o9 :: o10 :: o11 :: o12 :: some v :: t) H) (hx : Sto sc lv x := by first | exact Or.inl rfl | exact Or.inr ⟨rfl, rfl⟩) : wG X (.Name x pos) v (o0 :: o1 :: o2 :: o3 :: o4 :: o5 :: o6 :: o7 :: o8 :: o9 :: o10 :: o11 :: o12 :: o :: t) H Q := g_name (i := 13) C rfl hx h
theorem v14 {x : Str} {r : List Str} {n0 n1 n2 n3 n4 n5 n6 n7 n8 n9 n10 n11 n12 n13 : Str} {o0 o1 o2 o3 o4 o5 o6 o7 o8 o9 o10 o11 o12 o13 : Option V} {t : L2.St} {v : V} (C : Kx X P w K mg base (n0 :: n1 :: n2 :: n3 :: n4 :: n5 :: n6 :: n7 :: n8 :: n9 :: n10 :: n11 :: n12 :: n13 :: x :: r) sc k lv) (h : Q v H) (hv : Vis sc x := by first | exact Or.inl rfl | exact Or.inr (Or.inl rfl) | exact Or.inr (Or.inr rfl)) (hd : (x == ("__debug__" : Str)) = false := by decide) (hcd : (x == ("__classdict__" : Str)) = false := by decide) : wE X (.Name x pos) (o0 :: o1 :: o2 :: o3 :: o4 :: o5 :: o6 :: o7 :: o8 :: o9 :: o10 :: o11 :: o12 :: o13 :: some v :: t) H Q := e_var (i := 14) C rfl rfl hv h hd hcd
theorem g14 {x : Str} {r : List Str} {n0 n1 n2 n3 n4 n5 n6 n7 n8 n9 n10 n11 n12 n13 : Str} {o0 o1 o2 o3 o4 o5 o6 o7 o8 o9 o10 o11 o12 o13 : Option V} {o : Option V} {t : L2.St} {v : V} {Q : L2.St → Hp → Prop} (C : Kx X P w K mg base (n0 :: n1 :: n2 :: n3 :: n4 :: n5 :: n6 :: n7 :: n8 :: n9 :: n10 :: n11 :: n12 :: n13 :: x :: r) sc k lv) (h : Q (o0 :: o1 :: o2 :: o3 :: o4 :: o5 :: o6 :: o7 :: o8 :: o9 :: o10 :: o11 :: o12 :: o13 :: some v :: t) H) (hx : Sto sc lv x := by first | exact Or.inl rfl | exact Or.inr ⟨rfl, rfl⟩) : wG X (.Name x pos) v (o0 :: o1 :: o2 :: o3 :: o4 :: o5 :: o6 :: o7 :: o8 :: o9 :: o10 :: o11 :: o12 :: o13 :: o :: t) H Q := g_name (i := 14) C rfl hx h
theorem v15 {x : Str} {r : List Str} {n0 n1 n2 n3 n4 n5 n6 n7 n8 n9 n10 n11 n12 n13 n14 : Str} {o0 o1 o2 o3 o4 o5 o6 o7 o8 o9 o10 o11 o12 o13 o14 : Option V} {t : L2.St} {v : V} (C : Kx X P w K mg base (n0 :: n1 :: n2 :: n3 :: n4 :: n5 :: n6 :: n7 :: n8 :: n9 :: n10 :: n11 :: n12 :: n13 :: n14 :: x :: r) sc k lv) (h : Q v H) (hv : Vis sc x := by first | exact Or.inl rfl | exact Or.inr (Or.inl rfl) | exact Or.inr (Or.inr rfl)) (hd : (x == ("__debug__" : Str)) = false := by decide) (hcd : (x == ("__classdict__" : Str)) = false := by decide) : wE X (.Name x pos) (o0 :: o1 :: o2 :: o3 :: o4 :: o5 :: o6 :: o7 :: o8 :: o9 :: o10 :: o11 :: o12 :: o13 :: o14 :: some v :: t) H Q := e_var (i := 15) C rfl rfl hv h hd hcd
theorem g15 {x : Str} {r : List Str} {n0 n1 n2 n3 n4 n5 n6 n7 n8 n9 n10 n11 n12 n13 n14 : Str} {o0 o1 o2 o3 o4 o5 o6 o7 o8 o9 o10 o11 o12 o13 o14 : Option V} {o : Option V} {t : L2.St} {v : V} {Q : L2.St → Hp → Prop} (C : Kx X P w K mg base (n0 :: n1 :: n2 :: n3 :: n4 :: n5 :: n6 :: n7 :: n8 :: n9 :: n10 :: n11 :: n12 :: n13 :: n14 :: x :: r) sc k lv) (h : Q (o0 :: o1 :: o2 :: o3 :: o4 :: o5 :: o6 :: o7 :: o8 :: o9 :: o10 :: o11 :: o12 :: o13 :: o14 :: some v :: t) H) (hx : Sto sc lv x := by first | exact Or.inl rfl | exact Or.inr ⟨rfl, rfl⟩) : wG X (.Name x pos) v (o0 :: o1 :: o2 :: o3 :: o4 :: o5 :: o6 :: o7 :: o8 :: o9 :: o10 :: o11 :: o12 :: o13 :: o14 :: o :: t) H Q := g_name (i := 15) C rfl hx h
theorem v16 {x : Str} {r : List Str} {n0 n1 n2 n3 n4 n5 n6 n7 n8 n9 n10 n11 n12 n13 n14 n15 : Str} {o0 o1 o2 o3 o4 o5 o6 o7 o8 o9 o10 o11 o12 o13 o14 o15 : Option V} {t : L2.St} {v : V} (C : Kx X P w K mg base (n0 :: n1 :: n2 :: n3 :: n4 :: n5 :: n6 :: n7 :: n8 :: n9 :: n10 :: n11 :: n12 :: n13 :: n14 :: n15 :: x :: r) sc k lv) (h : Q v H) (hv : Vis sc x := by first | exact Or.inl rfl | exact Or.inr (Or.inl rfl) | exact Or.inr (Or.inr rfl)) (hd : (x == ("__debug__" : Str)) = false := by decide) (hcd : (x == ("__classdict__" : Str)) = false := by decide) : wE X (.Name x pos) (o0 :: o1 :: o2 :: o3 :: o4 :: o5 :: o6 :: o7 :: o8 :: o9 :: o10 :: o11 :: o12 :: o13 :: o14 :: o15 :: some v :: t) H Q := e_var (i := 16) C rfl rfl hv h hd hcd
theorem g16 {x : Str} {r : List Str} {n0 n1 n2 n3 n4 n5 n6 n7 n8 n9 n10 n11 n12 n13 n14 n15 : Str} {o0 o1 o2 o3 o4 o5 o6 o7 o8 o9 o10 o11 o12 o13 o14 o15 : Option V} {o : Option V} {t : L2.St} {v : V} {Q : L2.St → Hp → Prop} (C : Kx X P w K mg base (n0 :: n1 :: n2 :: n3 :: n4 :: n5 :: n6 :: n7 :: n8 :: n9 :: n10 :: n11 :: n12 :: n13 :: n14 :: n15 :: x :: r) sc k lv) (h : Q (o0 :: o1 :: o2 :: o3 :: o4 :: o5 :: o6 :: o7 :: o8 :: o9 :: o10 :: o11 :: o12 :: o13 :: o14 :: o15 :: some v :: t) H) (hx : Sto sc lv x := by first | exact Or.inl rfl | exact Or.inr ⟨rfl, rfl⟩) : wG X (.Name x pos) v (o0 :: o1 :: o2 :: o3 :: o4 :: o5 :: o6 :: o7 :: o8 :: o9 :: o10 :: o11 :: o12 :: o13 :: o14 :: o15 :: o :: t) H Q := g_name (i := 16) C rfl hx h
theorem v17 {x : Str} {r : List Str} {n0 n1 n2 n3 n4 n5 n6 n7 n8 n9 n10 n11 n12 n13 n14 n15 n16 : Str} {o0 o1 o2 o3 o4 o5 o6 o7 o8 o9 o10 o11 o12 o13 o14 o15 o16 : Option V} {t : L2.St} {v : V} (C : Kx X P w K mg base (n0 :: n1 :: n2 :: n3 :: n4 :: n5 :: n6 :: n7 :: n8 :: n9 :: n10 :: n11 :: n12 :: n13 :: n14 :: n15 :: n16 :: x :: r) sc k lv) (h : Q v H) (hv : Vis sc x := by first | exact Or.inl rfl | exact Or.inr (Or.inl rfl) | exact Or.inr (Or.inr rfl)) (hd : (x == ("__debug__" : Str)) = false := by decide) (hcd : (x == ("__classdict__" : Str)) = false := by decide) : wE X (.Name x pos) (o0 :: o1 :: o2 :: o3 :: o4 :: o5 :: o6 :: o7 :: o8 :: o9 :: o10 :: o11 :: o12 :: o13 :: o14 :: o15 :: o16 :: some v :: t) H Q := e_var (i := 17) C rfl rfl hv h hd hcd
theorem g17 {x : Str} {r : List Str} {n0 n1 n2 n3 n4 n5 n6 n7 n8 n9 n10 n11 n12 n13 n14 n15 n16 : Str} {o0 o1 o2 o3 o4 o5 o6 o7 o8 o9 o10 o11 o12 o13 o14 o15 o16 : Option V} {o : Option V} {t : L2.St} {v : V} {Q : L2.St → Hp → Prop} (C : Kx X P w K mg base (n0 :: n1 :: n2 :: n3 :: n4 :: n5 :: n6 :: n7 :: n8 :: n9 :: n10 :: n11 :: n12 :: n13 :: n14 :: n15 :: n16 :: x :: r) sc k lv) (h : Q (o0 :: o1 :: o2 :: o3 :: o4 :: o5 :: o6 :: o7 :: o8 :: o9 :: o10 :: o11 :: o12 :: o13 :: o14 :: o15 :: o16 :: some v :: t) H) (hx : Sto sc lv x := by first | exact Or.inl rfl | exact Or.inr ⟨rfl, rfl⟩) : wG X (.Name x pos) v (o0 :: o1 :: o2 :: o3 :: o4 :: o5 :: o6 :: o7 :: o8 :: o9 :: o10 :: o11 :: o12 :: o13 :: o14 :: o15 :: o16 :: o :: t) H Q := g_name (i := 17) C rfl hx h
/-! ### operators on values -/
variable {i j : Int} {x y : Str} {a b : Addr} {xs ys : List V}
theorem o_add (h : Q (.int (i + j)) H) : wOp X (binaryOp .Add) (.int i) (.int j) H Q := goOp op_add ⟨i, j, rfl, rfl, h⟩
theorem o_sub (h : Q (.int (i - j)) H) : wOp X (binaryOp .Sub) (.int i) (.int j) H Q := goOp op_sub ⟨i, j, rfl, rfl, h⟩
theorem o_mul (h : Q (.int (i * j)) H) (hc : CMul i j) : wOp X (binaryOp .Mult) (.int i) (.int j) H Q := goOp op_mul ⟨i, j, rfl, rfl, hc, h⟩
theorem o_fdiv (h : Q (.int (i / j)) H) (hc : 0 < j ∧ j < 1073741824) : wOp X (binaryOp .FloorDiv) (.int i) (.int j) H Q := goOp op_fdiv ⟨i, j, rfl, rfl, hc, h⟩
theorem o_mod (h : Q (.int (i % j)) H) (hc : 0 < j) : wOp X (binaryOp .Mod) (.int i) (.int j) H Q := goOp op_mod ⟨i, j, rfl, rfl, hc, h⟩
theorem o_pow (h : Q (.int (i ^ j.toNat)) H) (hc : CPow i j) : wOp X (binaryOp .Pow) (.int i) (.int j) H Q := goOp op_pow ⟨i, j, rfl, rfl, hc, h⟩
theorem o_addS (h : Q (.str (x ++ y)) H) (hc : x.length + y.length ≤ sizeLine) : wOp X (binaryOp .Add) (.str x) (.str y) H Q := goOp op_add_str ⟨x, y, rfl, rfl, hc, h⟩
theorem o_neg (h : Q (.int (-i)) H) : wUn X (unaryOp .USub) (.int i) H Q := goUn un_neg ⟨i, rfl, h⟩
theorem o_lt (h : Q (.bl (decide (i < j))) H) : wOp X (compareOp .Lt) (.int i) (.int j) H Q := goOp op_lt ⟨i, j, rfl, rfl, h⟩
theorem o_le (h : Q (.bl (decide (i ≤ j))) H) : wOp X (compareOp .LtE) (.int i) (.int j) H Q := goOp op_le ⟨i, j, rfl, rfl, h⟩
theorem o_gt (h : Q (.bl (decide (j < i))) H) : wOp X (compareOp .Gt) (.int i) (.int j) H Q := goOp op_gt ⟨i, j, rfl, rfl, h⟩
theorem o_ge (h : Q (.bl (decide (j ≤ i))) H) : wOp X (compareOp .GtE) (.int i) (.int j) H Q := goOp op_ge ⟨i, j, rfl, rfl, h⟩
theorem dI : decide (V.int i = V.int j) = decide (i = j) := by simp
theorem dS : decide (V.str x = V.str y) = decide (x = y) := by simp
theorem dB {c d : Bool} : decide (V.bl c = V.bl d) = decide (c = d) := by simp
theorem o_eqI (h : Q (.bl (decide (i = j))) H) : wOp X (compareOp .Eq) (.int i) (.int j) H Q := goOp op_eq ⟨rfl, by rw [dI]; exact h⟩
theorem o_neI (h : Q (.bl (!decide (i = j))) H) : wOp X (compareOp .NotEq) (.int i) (.int j) H Q := goOp op_ne ⟨rfl, by rw [dI]; exact h⟩
theorem o_eqS (h : Q (.bl (decide (x = y))) H) : wOp X (compareOp .Eq) (.str x) (.str y) H Q := goOp op_eq ⟨rfl, by rw [dS]; exact h⟩
theorem o_neS (h : Q (.bl (!decide (x = y))) H) : wOp X (compareOp .NotEq) (.str x) (.str y) H Q := goOp op_ne ⟨rfl, by rw [dS]; exact h⟩
theorem o_eqB {c d : Bool} (h : Q (.bl (decide (c = d))) H) : wOp X (compareOp .Eq) (.bl c) (.bl d) H Q := goOp op_eq ⟨rfl, by rw [dB]; exact h⟩
theorem o_neB {c d : Bool} (h : Q (.bl (!decide (c = d))) H) : wOp X (compareOp .NotEq) (.bl c) (.bl d) H Q := goOp op_ne ⟨rfl, by rw [dB]; exact h⟩
theorem o_eqD (C : Kx X P w K mg base N sc k lv) {v u : V} {d e : PyData} (hd : Dp K H v d) (he : Dp K H u e) (sd : SeqAt.shaped d = true) (se : SeqAt.shaped e = true) (h : Q (.bl (PyData.eqv d e)) H) : wOp X (compareOp .Eq) v u H Q := by
  have e3 := C.eK; subst e3
  exact goOp (op_eqD C.u64) ⟨d, e, hd, he, sd, se, h⟩
theorem o_neD (C : Kx X P w K mg base N sc k lv) {v u : V} {d e : PyData} (hd : Dp K H v d) (he : Dp K H u e) (sd : SeqAt.shaped d = true) (se : SeqAt.shaped e = true) (h : Q (.bl (!PyData.eqv d e)) H) : wOp X (compareOp .NotEq) v u H Q := by
  have e3 := C.eK; subst e3
  exact goOp (op_neD C.u64) ⟨d, e, hd, he, sd, se, h⟩
theorem o_isN {v : V} (h : Q (.bl (decide (v = .non))) H) : wOp X (compareOp .Is) v .non H Q := goOp op_isN ⟨rfl, h⟩
theorem o_notN {v : V} (h : Q (.bl (!decide (v = .non))) H) : wOp X (compareOp .IsNot) v .non H Q := goOp op_notN ⟨rfl, h⟩
theorem o_isB {c d : Bool} (h : Q (.bl (decide (c = d))) H) : wOp X (compareOp .Is) (.bl c) (.bl d) H Q := goOp op_isBl ⟨c, d, rfl, rfl, h⟩
theorem o_notB {c d : Bool} (h : Q (.bl (!decide (c = d))) H) : wOp X (compareOp .IsNot) (.bl c) (.bl d) H Q := goOp op_notBl ⟨c, d, rfl, rfl, h⟩
theorem o_inT (C : Kx X P w K mg base N sc k lv) {v : V} (hq : SqT K H a xs) (hx : flatV v = true) (hf : xs.all flatV = true) (h : Q (.bl (inV v xs)) H) : wOp X (compareOp .In) v (.ref a) H Q := by
  have e3 := C.eK; subst e3
  exact goOp op_in_seq ⟨a, xs, rfl, .inr hq, hx, hf, h⟩
theorem o_ninT (C : Kx X P w K mg base N sc k lv) {v : V} (hq : SqT K H a xs) (hx : flatV v = true) (hf : xs.all flatV = true) (h : Q (.bl (!inV v xs)) H) : wOp X (compareOp .NotIn) v (.ref a) H Q := by
  have e3 := C.eK; subst e3
  exact goOp op_notIn_seq ⟨a, xs, rfl, .inr hq, hx, hf, h⟩
theorem o_inL (C : Kx X P w K mg base N sc k lv) {v : V} (hq : SqL K H a xs) (hx : flatV v = true) (hf : xs.all flatV = true) (h : Q (.bl (inV v xs)) H) : wOp X (compareOp .In) v (.ref a) H Q := by
  have e3 := C.eK; subst e3
  exact goOp op_in_seq ⟨a, xs, rfl, .inl hq, hx, hf, h⟩
theorem o_ninL (C : Kx X P w K mg base N sc k lv) {v : V} (hq : SqL K H a xs) (hx : flatV v = true) (hf : xs.all flatV = true) (h : Q (.bl (!inV v xs)) H) : wOp X (compareOp .NotIn) v (.ref a) H Q := by
  have e3 := C.eK; subst e3
  exact goOp op_notIn_seq ⟨a, xs, rfl, .inl hq, hx, hf, h⟩
/-- one sign in a text -/
theorem o_inS {c : Nat} (h : Q (.bl (decide (c ∈ y.cps.toList))) H) : wOp X (compareOp .In) (.str ⟨#[c]⟩) (.str y) H Q := goOp op_in_sign ⟨c, y, rfl, rfl, h⟩
theorem o_mulS {n : Int} (h : Q (.str (Txt.mul x n)) H) (hc : PySem.MulOk x n) : wOp X (binaryOp .Mult) (.str x) (.int n) H Q := by
  refine ⟨fun pins s σ v u I rx ry => ?_⟩
  obtain ⟨t, rfl⟩ := rx
  obtain ⟨t', rfl⟩ := ry
  exact PySem.SB.mul hc fun t' kk => ⟨.str _, H, I.tok _, ⟨t', rfl⟩, h⟩
/-! ### subscripts, slices -/
theorem ixT (C : Kx X P w K mg base N sc k lv) {v : V} (hq : SqT K H a xs) (hx : atI xs i = some v) (h : Q v H) : wIx X (.ref a) (.int i) H Q := by
  have e3 := C.eK; subst e3
  exact goIx ix_tup ⟨a, xs, i, v, rfl, rfl, hq, hx, h⟩
theorem ixL (C : Kx X P w K mg base N sc k lv) {v : V} (hq : SqL K H a xs) (hx : atI xs i = some v) (h : Q v H) : wIx X (.ref a) (.int i) H Q := by
  have e3 := C.eK; subst e3
  exact goIx ix_list ⟨a, xs, i, v, rfl, rfl, hq, hx, h⟩
theorem ixS {c : Nat} (hl : x.length ≤ sizeLine) (hx : atI x.cps.toList i = some c) (h : Q (.str ⟨#[c]⟩) H) : wIx X (.str x) (.int i) H Q := goIx ix_str ⟨x, i, c, rfl, rfl, hl, hx, h⟩
theorem slL (C : Kx X P w K mg base N sc k lv) {lo hi : Option Int} (hq : SqL K H a xs) (h : ∀ p, H p = none → Q (.ref p) (upd H p (.lst (cutV xs lo hi)))) : wSl X (.ref a) lo hi H Q := by
  have e3 := C.eK; subst e3
  exact goSl sl_list ⟨a, xs, rfl, hq, h⟩
theorem slS {lo hi : Option Int} (hl : x.length ≤ sizeLine) (h : Q (.str (cutS x lo hi)) H) : wSl X (.str x) lo hi H Q := goSl sl_str ⟨x, rfl, hl, h⟩
/-! ### built-in calls -/
theorem c_lenS (hl : x.length ≤ sizeLine) (h : Q (.int x.length) H) : wC X (.builtin "len") [.str x] H Q := goC call_len ⟨_, _, rfl, ⟨hl, rfl⟩, h⟩
theorem c_lenL (C : Kx X P w K mg base N sc k lv) (hq : SqL K H a xs) (h : Q (.int xs.length) H) : wC X (.builtin "len") [.ref a] H Q := by
  have e3 := C.eK; subst e3
  exact goC call_len ⟨_, _, rfl, .inl ⟨xs, hq, rfl⟩, h⟩
theorem c_lenT (C : Kx X P w K mg base N sc k lv) (hq : SqT K H a xs) (h : Q (.int xs.length) H) : wC X (.builtin "len") [.ref a] H Q := by
  have e3 := C.eK; subst e3
  exact goC call_len ⟨_, _, rfl, .inr ⟨xs, hq, rfl⟩, h⟩
theorem c_isi (C : Kx X P w K mg base N sc k lv) {v : V} {n : String} {t : String} {r : Bool} (ty : TyX K H v (.type t)) (hk : kitB t n = some r) (h : Q (.bl r) H) : wC X (.builtin "isinstance") [v, .ty n] H Q := by
  have e3 := C.eK; subst e3
  exact goC call_isi ⟨v, .ty n, _, _, r, rfl, .ty n, ty, kit_ty hk, h⟩
theorem c_all (C : Kx X P w K mg base N sc k lv) {bs : List Bool} (hq : SqL K H a (bs.map V.bl)) (h : Q (.bl (bs.all id)) H) : wC X (.builtin "all") [.ref a] H Q := by
  have e3 := C.eK; subst e3
  exact goC (cr_all C.calm) ⟨a, bs, rfl, hq, h⟩
theorem c_any (C : Kx X P w K mg base N sc k lv) {bs : List Bool} (hq : SqL K H a (bs.map V.bl)) (h : Q (.bl (bs.any id)) H) : wC X (.builtin "any") [.ref a] H Q := by
  have e3 := C.eK; subst e3
  exact goC (cr_any C.calm) ⟨a, bs, rfl, hq, h⟩
theorem c_sum (C : Kx X P w K mg base N sc k lv) {ns : List Int} (hq : SqL K H a (ns.map V.int)) (h : Q (.int ns.sum) H) : wC X (.builtin "sum") [.ref a] H Q := by
  have e3 := C.eK; subst e3
  exact goC (cr_sum C.calm) ⟨a, ns, rfl, hq, h⟩
theorem c_strI (hb : i.natAbs.log2 < 1920) (h : Q (.str (toString i)) H) : wC X (.type "str") [.int i] H Q := goC call_str_int ⟨i, rfl, hb, h⟩
theorem c_tupL (C : Kx X P w K mg base N sc k lv) (hq : SqL K H a xs) (h : ∀ p, H p = none → Q (.ref p) (upd H p (.tup xs))) : wC X (.type "tuple") [.ref a] H Q := by
  have e3 := C.eK; subst e3
  exact goC call_tuple_of ⟨a, xs, rfl, .inl ⟨hq, h⟩⟩
theorem c_listL (C : Kx X P w K mg base N sc k lv) (hq : SqL K H a xs) (h : ∀ p, H p = none → Q (.ref p) (upd H p (.lst xs))) : wC X (.type "list") [.ref a] H Q := by
  have e3 := C.eK; subst e3
  exact goC call_list_of ⟨a, xs, rfl, .inl hq, h⟩
/-! ### methods -/
theorem m_append {v : V} (hH : H a = some (.lst xs)) (hl : xs.length < sizeLine) (h : Q .non (upd H a (.lst (xs ++ [v])))) : wM X "list.append" (.ref a) [v] H Q := goM mt_append ⟨a, xs, v, rfl, rfl, hH, hl, h⟩
theorem m_extend (hH : H a = some (.lst xs)) (hb : H b = some (.lst ys)) (hl : xs.length + ys.length ≤ sizeLine) (h : Q .non (upd H a (.lst (xs ++ ys)))) : wM X "list.extend" (.ref a) [.ref b] H Q := goM mt_extend ⟨a, b, xs, ys, rfl, rfl, hH, hb, hl, h⟩
theorem ty_lst (hH : H a = some (.lst xs)) : tyV K "list" (.ref a) H := .inl ⟨rfl, xs, SqL.of hH⟩
theorem ty_str : tyV K "str" (.str x) H := by
  first
    | exact rfl
    | exact ⟨rfl, x, rfl⟩
    | exact .inr rfl
    | (unfold tyV; simp)
end
/-! ### heaps -/
/-- all that was tracked is as it was -/
abbrev Ex (H H' : Hp) : Prop := ∀ a o, H a = some o → H' a = some o
theorem Ex.refl (H : Hp) : Ex H H := fun _ _ h => h
theorem Ex.trans {H H1 H2 : Hp} (a : Ex H H1) (b : Ex H1 H2) : Ex H H2 := fun x o h => b x o (a x o h)
theorem Ex.new {H : Hp} {p : Addr} {o : HO} (h : H p = none) : Ex H (upd H p o) := fun b x e => by rw [upd_ne (ne_of_none e h)]; exact e
theorem Ex.mut {H H' : Hp} {p : Addr} {o : HO} (e : Ex H H') (h : H p = none) : Ex H (upd H' p o) := fun b x q => by rw [upd_ne (ne_of_none q h)]; exact e b x q
theorem Ex.back {H H' : Hp} {p : Addr} (e : Ex H H') (h : H' p = none) : H p = none := by
  cases q : H p with
  | none => rfl
  | some o => rw [e p o q] at h; cases h
/-- all but the object at t is as it was -/
def Bt (t : Addr) (H H' : Hp) : Prop := ∀ a o, a ≠ t → H a = some o → H' a = some o
theorem Bt.of {t : Addr} {H H' : Hp} (e : Ex H H') : Bt t H H' := fun a o _ h => e a o h
theorem Bt.trans {t : Addr} {H H1 H2 : Hp} (a : Bt t H H1) (b : Bt t H1 H2) : Bt t H H2 := fun x o n h => b x o n (a x o n h)
theorem Bt.upd {t : Addr} {H : Hp} {o : HO} : Bt t H (upd H t o) := fun b x n e => by rw [upd_ne n]; exact e
/-- .. where it was not there before -/
theorem Bt.ex {t : Addr} {H H1 H2 : Hp} (b : Bt t H1 H2) (e : Ex H H1) (h : H t = none) : Ex H H2 := fun x o q => b x o (ne_of_none q h) (e x o q)
/-- tuples and what is locked stay -/
def Tk (H H' : Hp) : Prop := (∀ a xs, H a = some (.tup xs) → H' a = some (.tup xs)) ∧ ∀ a o u, H a = some (.frz o u) → H' a = some (.frz o u)
theorem Tk.refl (H : Hp) : Tk H H := ⟨fun _ _ h => h, fun _ _ _ h => h⟩
theorem Tk.trans {H H1 H2 : Hp} (a : Tk H H1) (b : Tk H1 H2) : Tk H H2 := ⟨fun x xs h => b.1 x xs (a.1 x xs h), fun x o u h => b.2 x o u (a.2 x o u h)⟩
theorem Tk.of {H H' : Hp} (e : Ex H H') : Tk H H' := ⟨fun _ _ h => e _ _ h, fun _ _ _ h => e _ _ h⟩
theorem Tk.bt {t : Addr} {ys : List V} {H H' : Hp} (e : Bt t H H') (h : H t = some (.lst ys)) : Tk H H' :=
  ⟨fun a xs q => e a _ (fun z => by rw [z, h] at q; cases q) q, fun a o u q => e a _ (fun z => by rw [z, h] at q; cases q) q⟩
theorem Tk.lst {t : Addr} {ys : List V} {o : HO} {H : Hp} (h : H t = some (.lst ys)) : Tk H (upd H t o) := Tk.bt Bt.upd h
theorem Tk.dk {t : Addr} {ys : List (Key × V)} {o : HO} {H : Hp} (h : H t = some (.dK ys)) : Tk H (upd H t o) :=
  ⟨fun a xs q => by rw [upd_ne (fun z => by rw [z, h] at q; cases q)]; exact q, fun a o u q => by rw [upd_ne (fun z => by rw [z, h] at q; cases q)]; exact q⟩
theorem sqt_tk {K : PySem.W.Frag} {H H' : Hp} {a : Addr} {xs : List V} (e : Tk H H') (h : SqT K H a xs) : SqT K H' a xs := by
  rcases h with (h | ⟨o, h⟩) | h
  · exact .inl (.inl (e.1 _ _ h))
  · exact .inl (.inr ⟨o, e.2 _ _ _ h⟩)
  · exact .inr h
theorem sqt_ex {K : PySem.W.Frag} {H H' : Hp} {a : Addr} {xs : List V} (e : Ex H H') (h : SqT K H a xs) : SqT K H' a xs := sqt_tk (Tk.of e) h
theorem sql_ex {K : PySem.W.Frag} {H H' : Hp} {a : Addr} {xs : List V} (e : Ex H H') (h : SqL K H a xs) : SqL K H' a xs := by
  rcases h with (h | ⟨o, h⟩) | h
  · exact .inl (.inl (e _ _ h))
  · exact .inl (.inr ⟨o, e _ _ h⟩)
  · exact .inr h
/-- a list that nobody writes: locked, or of the top -/
def Fz (K : PySem.W.Frag) (H : Hp) (a : Addr) (xs : List V) : Prop := (∃ o, H a = some (.frz o (.lst xs))) ∨ (SqL K (fun _ => none) a xs)
theorem Fz.sq {K : PySem.W.Frag} {H : Hp} {a : Addr} {xs : List V} (h : Fz K H a xs) : SqL K H a xs := by
  rcases h with ⟨o, h⟩ | (h | ⟨o, h⟩) | h
  · exact .inl (.inr ⟨o, h⟩)
  · cases h
  · cases h
  · exact .inr h
theorem Fz.tk {K : PySem.W.Frag} {H H' : Hp} {a : Addr} {xs : List V} (e : Tk H H') (h : Fz K H a xs) : Fz K H' a xs := by
  rcases h with ⟨o, h⟩ | h
  · exact .inl ⟨o, e.2 _ _ _ h⟩
  · exact .inr h
theorem Fz.of {K : PySem.W.Frag} {H : Hp} {a : Addr} {xs : List V} (o : Only H) (h : SqL K H a xs) : Fz K H a xs := by
  rcases h with (h | h) | h
  · rcases o a with q | ⟨o, ys, q⟩
    · rw [q] at h; cases h
    · rw [q] at h; cases h
  · exact .inl h
  · exact .inr (.inr h)

/-! ### loops -/
section
variable {X : Cx} {P : Program} {w : World} {K : PySem.W.Frag} {mg : Str → Option Value} {base : Heap} {N : List Str} {sc : Scope} {k : Nat} {lv : Bool}
variable {σ : L2.St} {H : Hp} {pos p : Pos} {tg e e1 e2 : Expr} {body : List Stmt} {nx : L2.St → Hp → Prop} {rt : VK} {bk ct : L2.St → Hp → Prop}
/-- what is walked: n turns, while G stands -/
def Wk (R : It → Hp → Prop) (n : Nat) (G : Hp → Prop) (Y : Nat → Hp → V → Hp → Prop) (H : Hp) : Prop := ∃ J, Walk J n G Y ∧ (R J H)
theorem s_forW {iter : Expr} (C : Kx X P w K mg base N sc k lv)
    (h : wI X tg iter σ H fun J H1 => ∃ n G Y, Walk J n G Y ∧ ∃ Pv : Nat → L2.St → Hp → Prop, Pv 0 σ H1 ∧ (∀ i σ' H', i ≤ n → Pv i σ' H' → G H') ∧
      (∀ i v σ' H' H2, i < n → Pv i σ' H' → Y i H' v H2 → wG X tg v σ' H2 fun σ2 H2 => wSs X body (Pv (i + 1)) rt nx (Pv (i + 1)) σ2 H2) ∧ (∀ σ' H', Pv n σ' H' → nx σ' H'))
    (hs : ∀ x, foldedSetIterable iter X.env x = pure x := by intro _; rfl) : wS X (.For tg iter body [] pos) nx rt bk ct σ H := by
  refine s_for C (wI_mono (fun J H1 q => ?_) h) hs
  obtain ⟨n, G, Y, wk, Pv, h0, hG, hst, hd⟩ := q
  exact for_it wk (g := wG X tg) (tb := fun D => wSs X body D.nx D.rt D.bk D.ct) (D := ⟨nx, rt, bk, ct⟩) Pv h0 hG hst hd
/-- over a list -/
theorem i_L {R : It → Hp → Prop} (C : Kx X P w K mg base N sc k lv) (h : wE X e σ H fun v H1 => ∃ a xs, v = .ref a ∧ SqL K H1 a xs ∧ ∀ J, Walk J xs.length (fun H => SqL K H a xs) (YAt xs) → R J H1) : wI X tg e σ H R := by
  have e3 := C.eK; subst e3
  exact goI (pi_list peW) (wE_mono (fun v H1 ⟨a, xs, ev, hq, q⟩ => ⟨a, ev, ⟨xs, hq⟩, q _ walk_list⟩) h)
theorem i_T {R : It → Hp → Prop} (C : Kx X P w K mg base N sc k lv) (h : wE X e σ H fun v H1 => ∃ a xs, v = .ref a ∧ SqT K H1 a xs ∧ ∀ J, Walk J xs.length (fun H => SqT K H a xs) (YAt xs) → R J H1) : wI X tg e σ H R := by
  have e3 := C.eK; subst e3
  exact goI (pi_tup peW) (wE_mono (fun v H1 ⟨a, xs, ev, hq, q⟩ => ⟨a, ev, ⟨xs, hq⟩, q _ walk_tup⟩) h)
theorem i_S {R : It → Hp → Prop} (h : wE X e σ H fun v H1 => ∃ z, v = .str z ∧ ∀ J, Walk J z.cps.size (fun _ => True) (fun i H v H' => H' = H ∧ ∃ c, z.cps[i]? = some c ∧ v = .str ⟨#[c]⟩) → R J H1) : wI X tg e σ H R :=
  goI (pi_str peW) (wE_mono (fun v H1 ⟨z, ev, q⟩ => ⟨z, ev, q _ walk_str⟩) h)
theorem i_R1 {R : It → Hp → Prop} (C : Kx X P w K mg base N sc k lv) (hm : mg "range" = none) (h : wE X e σ H fun v H1 => ∃ j : Int, v = .int j ∧ (-(2 ^ 62) ≤ j ∧ j < 2 ^ 62) ∧ ∀ J, Walk J j.toNat (fun _ => True) (YFn fun i => .int (0 + i)) → R J H1)
    (hg : sc.names.lookup ("range" : Str) = some .globalImplicit := by rfl) (hs : starEach [e] X.env = [(false, eval e X.env)] := by rfl) : wI X tg (.Call (.Name "range" p) [e] [] pos) σ H R :=
  goI (pi_range1 (C.gl hg) (by rw [C.emg]; exact hm) (pa_cons peW pa_nil hs) hs) (show wE X e σ H fun v H1 => ∃ j : Int, [v] = [.int j] ∧ -(2 ^ 62) ≤ j ∧ j < 2 ^ 62 ∧ R (Itr 0 j.toNat) H1 from
    wE_mono (fun v H1 ⟨j, ev, hb, q⟩ => ⟨j, by rw [ev], hb.1, hb.2, q _ walk_range⟩) h)
theorem i_R2 {R : It → Hp → Prop} (C : Kx X P w K mg base N sc k lv) (hm : mg "range" = none) (h : wE X e1 σ H fun v H1 => wE X e2 σ H1 fun u H2 => ∃ i j : Int, v = .int i ∧ u = .int j ∧ (-(2 ^ 62) ≤ i ∧ i < 2 ^ 62 ∧ -(2 ^ 62) ≤ j ∧ j < 2 ^ 62) ∧ ∀ J, Walk J (j - i).toNat (fun _ => True) (YFn fun n => .int (i + n)) → R J H2)
    (hg : sc.names.lookup ("range" : Str) = some .globalImplicit := by rfl) (hs : starEach [e1, e2] X.env = [(false, eval e1 X.env), (false, eval e2 X.env)] := by rfl) (hs2 : starEach [e2] X.env = [(false, eval e2 X.env)] := by rfl) : wI X tg (.Call (.Name "range" p) [e1, e2] [] pos) σ H R :=
  goI (pi_range2 (C.gl hg) (by rw [C.emg]; exact hm) (pa_cons peW (pa_cons peW pa_nil hs2) (by rw [hs, hs2])) hs hs2) (show wE X e1 σ H fun v H1 => wE X e2 σ H1 fun u H2 => ∃ i j : Int, [v, u] = [.int i, .int j] ∧ (-(2 ^ 62) ≤ i ∧ i < 2 ^ 62 ∧ -(2 ^ 62) ≤ j ∧ j < 2 ^ 62) ∧ R (Itr i (j - i).toNat) H2 from
    wE_mono (fun v H1 q => wE_mono (fun u H2 ⟨i, j, e1, e2, hb, q⟩ => ⟨i, j, by rw [e1, e2], hb, q _ walk_range⟩) q) h)
theorem i_En {R : It → Hp → Prop} {elts : List Expr} {kk : Nat} {tpos : Pos} (C : Kx X P w K mg base N sc k lv) (hm : mg "enumerate" = none) (h : wE X e σ H fun v H1 => ∃ a xs, v = .ref a ∧ SqL K H1 a xs ∧ ∀ J, Walk J xs.length (fun H => SqL K H a xs) (YPair (fun i => some (.int (i : Nat))) (fun i => xs[i]?)) → R J H1)
    (hg : sc.names.lookup ("enumerate" : Str) = some .globalImplicit := by rfl) (hs : starEach [e] X.env = [(false, eval e X.env)] := by rfl) : wI X (.Tuple elts kk tpos) (.Call (.Name "enumerate" p) [e] [] pos) σ H R := by
  have e3 := C.eK; subst e3
  exact goI (pi_enum (C.gl hg) (by rw [C.emg]; exact hm) (pa_cons peW pa_nil hs) hs) (show wE X e σ H fun v H1 => ∃ a xs, [v] = [.ref a] ∧ SqL X.K H1 a xs ∧ R (Ite X.K a) H1 from
    wE_mono (fun v H1 ⟨a, xs, ev, hq, q⟩ => ⟨a, xs, by rw [ev], hq, q _ walk_enum⟩) h)
theorem walk_zipT {K : PySem.W.Frag} {a b : Addr} {xs ys : List V} {n : Nat} (hn : n = min xs.length ys.length) : Walk (RZ.ItzT K a b) n (fun H => SqT K H a xs ∧ SqT K H b ys) (YPair (fun i => xs[i]?) (fun i => ys[i]?)) where
  goes := fun i H hi hG => by
    subst hn
    have h1 : i < xs.length := by omega
    have h2 : i < ys.length := by omega
    exact ⟨xs, ys, xs[i], ys[i], hG.1, hG.2, List.getElem?_eq_getElem h1, List.getElem?_eq_getElem h2⟩
  stops := fun H hG => ⟨xs, ys, hG.1, hG.2, by omega⟩
  yields := fun i H x H' hi hG hy => by
    obtain ⟨T, x1, y1, e1, e2, e3, f1, f2⟩ := hy
    exact ⟨T, x1, y1, e1, e2, e3, f1 _ hG.1, f2 _ hG.2⟩
theorem i_Z {R : It → Hp → Prop} {elts : List Expr} {kk : Nat} {tpos : Pos} (C : Kx X P w K mg base N sc k lv) (hm : mg "zip" = none) (h : wE X e1 σ H fun v H1 => wE X e2 σ H1 fun u H2 => ∃ a b xs ys, v = .ref a ∧ u = .ref b ∧
      ((SqL K H2 a xs ∧ SqL K H2 b ys ∧ ∀ J, Walk J (min xs.length ys.length) (fun H => SqL K H a xs ∧ SqL K H b ys) (YPair (fun i => xs[i]?) (fun i => ys[i]?)) → R J H2) ∨
       (SqT K H2 a xs ∧ SqT K H2 b ys ∧ ∀ J, Walk J (min xs.length ys.length) (fun H => SqT K H a xs ∧ SqT K H b ys) (YPair (fun i => xs[i]?) (fun i => ys[i]?)) → R J H2)))
    (hg : sc.names.lookup ("zip" : Str) = some .globalImplicit := by rfl) (hs : starEach [e1, e2] X.env = (false, eval e1 X.env) :: starEach [e2] X.env := by rfl) (hs2 : starEach [e2] X.env = (false, eval e2 X.env) :: starEach [] X.env := by rfl) (hpl : (backTo pos (starEach [e2] X.env)).any (·.1) = false := by rfl) :
    wI X (.Tuple elts kk tpos) (.Call (.Name "zip" p) [e1, e2] [] pos) σ H R := by
  have e3 := C.eK; subst e3
  exact goI (RZ.pi_zipA (C.gl hg) (by rw [C.emg]; exact hm) (pa_cons peW (pa_cons peW pa_nil hs2) hs) hs hpl) (show wE X e1 σ H fun v H1 => wE X e2 σ H1 fun u H2 => ∃ a b xs ys, [v, u] = [.ref a, .ref b] ∧ ((SqL X.K H2 a xs ∧ SqL X.K H2 b ys ∧ R (Itz X.K a b) H2) ∨ (SqT X.K H2 a xs ∧ SqT X.K H2 b ys ∧ R (RZ.ItzT X.K a b) H2)) from
    wE_mono (fun v H1 q => wE_mono (fun u H2 ⟨a, b, xs, ys, e1, e2, q⟩ => ⟨a, b, xs, ys, by rw [e1, e2], by
      rcases q with ⟨q1, q2, q⟩ | ⟨q1, q2, q⟩
      · exact .inl ⟨q1, q2, q _ (walk_zip rfl)⟩
      · exact .inr ⟨q1, q2, q _ (walk_zipT rfl)⟩⟩) q) h)
end
/-! ### comprehensions -/
section
variable {X : Cx} {P : Program} {w : World} {K : PySem.W.Frag} {mg : Str → Option Value} {base : Heap} {N : List Str} {sc : Scope} {k : Nat} {lv : Bool}
variable {σ : L2.St} {H : Hp} {pos p : Pos} {tg elt iter : Expr} {ifs : List Expr} {scope : Scope} {Q : VK} {own : List (Str × Nat)}
theorem Kx.blk (C : Kx X P w K mg base N sc k lv) (hk : scope.kind = .function) (s : Shared) (H : Hp) (Ca : Addr) (cl : List (Str × Addr)) (fp : List Addr) : Kx (X.blk s H scope (compEnvC scope cl Ca X.env) fp) P w K mg base N (relS scope sc) k false := by
  refine ⟨C.eprog, C.ew, C.eK, C.emg, C.ebase, C.eN, ?_, C.nd, hk, C.calm, C.room, PassesOwn.never, fun z => by cases z⟩
  rw [← C.esc]
  rfl
/-- the body of a comprehension, as it stands in its own frame -/
def tU (P : Program) (w : World) (K : PySem.W.Frag) (mg : Str → Option Value) (base : Heap) (N : List Str) (sc : Scope) (k : Nat) (e : Expr) : TE := fun σ H Q => ∀ X', Kx X' P w K mg base N sc k false → wE X' e σ H Q
def tUT (P : Program) (w : World) (K : PySem.W.Frag) (mg : Str → Option Value) (base : Heap) (N : List Str) (sc : Scope) (k : Nat) : List Expr → TT
  | [] => tYes
  | c :: _ => fun σ H R => ∀ X', Kx X' P w K mg base N sc k false → wT X' c σ H R
/-- one clause, one test at most -/
theorem lc_reads (C : Kx X P w K mg base N sc k lv) (hi : ifs.length ≤ 1) (g : TG) (hg : ∀ X', Kx X' P w K mg base N (relS scope sc) k false → PG X' tg g) (ok : blkC N sc scope own = true) (hs : ∀ x, foldedSetIterable iter X.env x = pure x) :
    PE X (.ListComp elt [⟨tg, iter, ifs, 0⟩] scope pos) (tLc (wI X tg iter) g (tUT P w K mg base N (relS scope sc) k ifs) (tU P w K mg base N (relS scope sc) k elt) (own.map (·.2))) := by
  have okb := blkOk_by ok
  refine pe_lc C.calm C.ndX piW (by rw [C.eN, C.esc]; exact okb) (fun s H Ca cl fp => hg _ (C.blk okb.kind s H Ca cl fp)) (fun s H Ca cl fp => ?_) (fun s H Ca cl fp => ⟨fun pins s1 σ1 H1 Q I h => (h _ (C.blk okb.kind s H Ca cl fp)).run pins s1 I⟩) hs
  cases ifs with
  | nil => exact pts_nil
  | cons c r =>
    cases r with
    | nil => exact pts_one ⟨fun pins s1 σ1 H1 Q I h => (h _ (C.blk okb.kind s H Ca cl fp)).run pins s1 I⟩
    | cons d r => simp at hi
theorem lc_readsS {i : Nat} {y : Str} {py spos : Pos} (C : Kx X P w K mg base N sc k lv) (hi : ifs.length ≤ 1) (g : TG) (hg : ∀ X', Kx X' P w K mg base N (relS scope sc) k false → PG X' tg g) (ok : blkC N sc scope own = true) (hN : N[i]? = some y) (hy : sc.names.lookup y = some .local)
    (hl : (py.line == pos.line) = true) (ha : (scope.names.any fun (n, k) => n == y && (k == .local || k == .cell)) = false) (hs : ∀ x, foldedSetIterable iter X.env x = pure x) :
    PS X (.Assign [.Name y py] (.ListComp elt [⟨tg, iter, ifs, 0⟩] scope pos) spos) (tAsg (tLc (wI X tg iter) g (tUT P w K mg base N (relS scope sc) k ifs) (tU P w K mg base N (relS scope sc) k elt) (own.map (·.2))) (gName i)) := by
  have okb := blkOk_by ok
  have hy' : X.env.scope.names.lookup y = some .local := by rw [C.esc]; exact hy
  refine ps_setLc C.calm C.ndX (C.at hN) hy' (sw_true (by rw [C.esc]; exact C.kind) hy' hl ha) piW (by rw [C.eN, C.esc]; exact okb) (fun s H Ca cl fp => hg _ (C.blk okb.kind s H Ca cl fp)) (fun s H Ca cl fp => ?_) (fun s H Ca cl fp => ⟨fun pins s1 σ1 H1 Q I h => (h _ (C.blk okb.kind s H Ca cl fp)).run pins s1 I⟩) hs
  cases ifs with
  | nil => exact pts_nil
  | cons c r =>
    cases r with
    | nil => exact pts_one ⟨fun pins s1 σ1 H1 Q I h => (h _ (C.blk okb.kind s H Ca cl fp)).run pins s1 I⟩
    | cons d r => simp at hi
theorem pgN {X : Cx} {i : Nat} {x : Str} (hN : N[i]? = some x) (hx : Sto sc lv x := by first | exact Or.inl rfl | exact Or.inr ⟨rfl, rfl⟩) : ∀ X', Kx X' P w K mg base N sc k lv → PG X' (.Name x pos) (gName i) := fun X' C => pg_name C.ndX (C.at hN) (C.loc hx.loc) (C.hf hx)
theorem pgT2 {i j : Nat} {x y : Str} {p1 p2 : Pos} {kk : Nat} (hN : N[i]? = some x) (hN2 : N[j]? = some y) (hx : Sto sc lv x := by first | exact Or.inl rfl | exact Or.inr ⟨rfl, rfl⟩) (hy : Sto sc lv y := by first | exact Or.inl rfl | exact Or.inr ⟨rfl, rfl⟩) :
    ∀ X', Kx X' P w K mg base N sc k lv → PG X' (.Tuple [.Name x p1, .Name y p2] kk pos) (gTup K 2 (gCons (gName i) (gCons (gName j) gNil))) := fun X' C => by
  have e3 := C.eK; subst e3
  exact pg_tup C.calm (pgs_cons (pg_name C.ndX (C.at hN) (C.loc hx.loc) (C.hf hx)) (pgs_cons (pg_name C.ndX (C.at hN2) (C.loc hy.loc) (C.hf hy)) pgs_nil))
/-- THE COMPREHENSION that changes nothing that stood: which turns give (f), and what (G) -/
theorem lc_pure {J : It} {n : Nat} {Gd : Hp → Prop} {Y : Nat → Hp → V → Hp → Prop} {g : TG} {tt : TT} {te : TE} {vs : List Nat} {σ : L2.St} {H1 : Hp} {D : Addr} {Qd : Hp → Prop} (wk : Walk J n Gd Y) (nD : H1 D = none) (hn : n ≤ 1000000)
    (f : Nat → Bool) (G : Nat → V → Hp → Prop) (st : ∀ i v H H', Tk H H' → G i v H → G i v H') (hG : ∀ H', Ex H1 H' → Gd H')
    (hs : ∀ i v H' H2, i < n → Ex H1 H' → Y i H' v H2 → g v (wipe σ vs) H2 fun σ2 H3 => wipe σ2 vs = wipe σ vs ∧ tt σ2 H3 fun b H4 => Ex H' H4 ∧ b = f i ∧ (b = true → te σ2 H4 fun y H5 => Ex H4 H5 ∧ G i y H5))
    (hd : ∀ ys H', Ex H1 H' → H' D = some (.lst ys) → Paired (fun i y => G i y H') ((List.range n).filter f) ys → Qd H')
    (mt : ∀ σ2 H R R', (∀ b H', R b H' → R' b H') → tt σ2 H R → tt σ2 H R') (me : ∀ σ2 H (R R' : VK), (∀ b H', R b H' → R' b H') → te σ2 H R → te σ2 H R') (mg : ∀ v σ2 H R R', (∀ b H', R b H' → R' b H') → g v σ2 H R → g v σ2 H R') :
    ∃ W : Nat → Nat → Hp → Prop, (∃ m, W 0 m (upd H1 D (.lst []))) ∧ ∀ i m H, W i m H →
      (J.stop i H ∧ Qd H) ∨ (J.go i H ∧ ∃ Nx : Hp → Prop, (∀ H', Nx H' → ∃ m', m' < m ∧ W (i + 1) m' H') ∧ ∀ x H', J.yld i H x H' → g x (wipe σ vs) H' fun σ2 H2 => wipe σ2 vs = wipe σ vs ∧ tt σ2 H2 fun b H3 =>
        if b = true then te σ2 H3 fun y H4 => ∃ acc, H4 D = some (.lst acc) ∧ acc.length < sizeLine ∧ Nx (upd H4 D (.lst (acc ++ [y]))) else Nx H3) := by
  have sz : ∀ m : Nat, m ≤ 1000000 → m < sizeLine := fun m h => Nat.lt_of_le_of_lt h (by decide)
  have pl : ∀ {α β : Type} {F : α → β → Prop} {l : List α} {r : List β}, Paired F l r → r.length = l.length := fun h => (Paired.length h).symm
  have pa : ∀ {F : Nat → V → Prop} {l : List Nat} {r : List V} {a : Nat} {b : V}, Paired F l r → F a b → Paired F (l ++ [a]) (r ++ [b]) := by
    intro F l r a b h q
    induction h with
    | nil => exact .cons q .nil
    | cons r t ih => exact .cons r ih
  refine lc_it wk (fun i H' => Ex H1 H' ∧ ∃ ys, H' D = some (.lst ys) ∧ Paired (fun j y => G j y H') ((List.range i).filter f) ys) ⟨Ex.new nD, [], upd_same, .nil⟩ (fun i H' _ h => hG H' h.1) (fun i v H' H2 hi hP hy => ?_) (fun H' hP => ?_)
  · obtain ⟨hex, ys, hD, hp⟩ := hP
    have hlen : ys.length ≤ i := by
      rw [pl hp]
      exact Nat.le_trans (List.length_filter_le _ _) (by rw [List.length_range]; exact Nat.le_refl _)
    refine mg _ _ _ _ _ (fun σ2 H3 q => ⟨q.1, mt _ _ _ _ (fun b H4 q => ?_) q.2⟩) (hs i v H' H2 hi hex hy)
    obtain ⟨e4, hb, hy⟩ := q
    cases hbb : b with
    | false =>
      rw [if_neg (by simp)]
      refine ⟨Ex.trans hex e4, ys, e4 _ _ hD, ?_⟩
      rw [List.range_succ, List.filter_append, List.filter_cons, if_neg (by rw [← hb, hbb]; simp), List.filter_nil, List.append_nil]
      exact Paired.mapP hp fun j y q => st _ _ _ _ (Tk.of e4) q
    | true =>
      rw [if_pos rfl]
      refine me _ _ _ _ (fun y H5 q => ?_) (hy hbb)
      obtain ⟨e5, gy⟩ := q
      have hD5 : H5 D = some (.lst ys) := e5 _ _ (e4 _ _ hD)
      refine ⟨ys, hD5, sz _ (by omega), Ex.mut (Ex.trans hex (Ex.trans e4 e5)) nD, ys ++ [y], upd_same, ?_⟩
      rw [List.range_succ, List.filter_append, List.filter_cons, if_pos (by rw [← hb, hbb]), List.filter_nil]
      refine pa (Paired.mapP hp fun j z q => st _ _ _ _ (Tk.trans (Tk.of (Ex.trans e4 e5)) (Tk.lst hD5)) q) (st _ _ _ _ (Tk.lst hD5) gy)
  · obtain ⟨hex, ys, hD, hp⟩ := hP
    exact hd ys H' hex hD hp
end
end DP
set_option Elab.async false
set_option linter.all false
set_option maxRecDepth 100000
set_option maxHeartbeats 1000000
namespace DP
open PySem L2
section
variable {X : Cx} {P : Program} {w : World} {K : PySem.W.Frag} {mg : Str → Option Value} {base : Heap} {N : List Str} {sc : Scope} {k : Nat} {lv : Bool}
variable {σ : L2.St} {H : Hp} {pos p : Pos} {tg elt iter c : Expr} {scope : Scope} {Q : VK} {own : List (Str × Nat)}
theorem tU_mono {k : Nat} : ∀ σ2 H (R R' : VK), (∀ b H', R b H' → R' b H') → tU P w K mg base N sc k elt σ2 H R → tU P w K mg base N sc k elt σ2 H R' := fun _ _ _ _ hm h X' C => wE_mono hm (h X' C)
theorem tUT_mono {k : Nat} : ∀ (ifs : List Expr) σ2 H (R R' : Bool → Hp → Prop), (∀ b H', R b H' → R' b H') → tUT P w K mg base N sc k ifs σ2 H R → tUT P w K mg base N sc k ifs σ2 H R'
  | [], _, _, _, _, hm, h => hm _ _ h
  | c :: _, _, _, _, _, hm, h => fun X' C => wT_mono hm (h X' C)
/-- what is asked of a source -/
def Src (R : Nat → (Nat → Hp → V → Hp → Prop) → Hp → Prop) (J : It) (H1 : Hp) : Prop := ∃ n Gd Y, Walk J n Gd Y ∧ n ≤ 1000000 ∧ (∀ H', Ex H1 H' → Gd H') ∧ R n Y H1
/-- the new list -/
def NewL (n : Nat) (f : Nat → Bool) (G : Nat → V → Hp → Prop) (H1 : Hp) (Q : VK) : Prop := ∀ D ys H', H1 D = none → Ex H1 H' → H' D = some (.lst ys) → Paired (fun i y => G i y H') ((List.range n).filter f) ys → Q (.ref D) H'
theorem filter_all {n : Nat} : (List.range n).filter (fun _ => true) = List.range n := List.filter_eq_self.mpr fun _ _ => rfl
theorem wipe1 {σ : L2.St} {i : Nat} {v : V} : (wipe σ [i]).set i (some v) = σ.set i (some v) ∧ wipe (σ.set i (some v)) [i] = wipe σ [i] := by
  constructor
  · show (σ.set i none).set i (some v) = _
    rw [List.set_set]
  · show (σ.set i (some v)).set i none = σ.set i none
    rw [List.set_set]
theorem set_comm' {σ : L2.St} {i j : Nat} {a b : Option V} (h : i ≠ j) : (σ.set i a).set j b = (σ.set j b).set i a := List.set_comm a b h
theorem wipe2 {σ : L2.St} {i j : Nat} {v u : V} (h : i ≠ j) : ((wipe σ [i, j]).set i (some v)).set j (some u) = (σ.set i (some v)).set j (some u) ∧ wipe ((σ.set i (some v)).set j (some u)) [i, j] = wipe σ [i, j] := by
  constructor
  · show (((σ.set j none).set i none).set i (some v)).set j (some u) = _
    rw [List.set_set, set_comm' h, List.set_set, ← set_comm' h]
  · show (((σ.set i (some v)).set j (some u)).set j none).set i none = (σ.set j none).set i none
    rw [List.set_set, ← set_comm' (σ := σ) (i := j) (j := i) (fun e => h e.symm), List.set_set]
/-- [elt for x in ..] -/
theorem lc_core1 {i : Nat} {x : Str} {ifs : List Expr} (C : Kx X P w K mg base N sc k lv) (hi : ifs.length ≤ 1) (f : Nat → Bool)
    (h : wI X (.Name x p) iter σ H fun J H1 => Src (fun n Y H1 => ∃ G : Nat → V → Hp → Prop, (∀ i v H H', Tk H H' → G i v H → G i v H') ∧
      (∀ m v H' H2, m < n → Ex H1 H' → Y m H' v H2 → tUT P w K mg base N (relS scope sc) k ifs (σ.set i (some v)) H2 fun b H4 => Ex H' H4 ∧ b = f m ∧ (b = true → tU P w K mg base N (relS scope sc) k elt (σ.set i (some v)) H4 fun y H5 => Ex H4 H5 ∧ G m y H5)) ∧ NewL n f G H1 Q) J H1) :
    tLc (wI X (.Name x p) iter) (gName i) (tUT P w K mg base N (relS scope sc) k ifs) (tU P w K mg base N (relS scope sc) k elt) [i] σ H Q := by
  refine wI_mono (fun J H1 q => ?_) h
  obtain ⟨n, Gd, Y, wk, hn, hG, G, st, hs, hd⟩ := q
  refine fun D nD => ?_
  refine lc_pure wk nD hn f G st hG (fun m v H' H2 hm hx hy => ?_) (fun ys H' hx hD hp => hd D ys H' nD hx hD hp) (tUT_mono ifs) tU_mono (fun v σ2 H R R' hm q => hm _ _ q)
  show wipe ((wipe σ [i]).set i (some v)) [i] = wipe σ [i] ∧ _
  rw [wipe1.1]
  exact ⟨wipe1.2, hs m v H' H2 hm hx hy⟩
/-- [elt for x, y in ..] -/
theorem lc_core2 {i j : Nat} {tg : Expr} {ifs : List Expr} (C : Kx X P w K mg base N sc k lv) (hij : i ≠ j) (hi : ifs.length ≤ 1) (f : Nat → Bool)
    (h : wI X tg iter σ H fun J H1 => Src (fun n Y H1 => ∃ G : Nat → V → Hp → Prop, (∀ i v H H', Tk H H' → G i v H → G i v H') ∧
      (∀ m v H' H2, m < n → Ex H1 H' → Y m H' v H2 → ∃ a v1 v2, v = .ref a ∧ SqT K H2 a [v1, v2] ∧ tUT P w K mg base N (relS scope sc) k ifs ((σ.set i (some v1)).set j (some v2)) H2 fun b H4 => Ex H' H4 ∧ b = f m ∧ (b = true → tU P w K mg base N (relS scope sc) k elt ((σ.set i (some v1)).set j (some v2)) H4 fun y H5 => Ex H4 H5 ∧ G m y H5)) ∧ NewL n f G H1 Q) J H1) :
    tLc (wI X tg iter) (gTup K 2 (gCons (gName i) (gCons (gName j) gNil))) (tUT P w K mg base N (relS scope sc) k ifs) (tU P w K mg base N (relS scope sc) k elt) [i, j] σ H Q := by
  refine wI_mono (fun J H1 q => ?_) h
  obtain ⟨n, Gd, Y, wk, hn, hG, G, st, hs, hd⟩ := q
  refine fun D nD => ?_
  refine lc_pure wk nD hn f G st hG (fun m v H' H2 hm hx hy => ?_) (fun ys H' hx hD hp => hd D ys H' nD hx hD hp) (tUT_mono ifs) tU_mono (fun v σ2 H R R' hm q => ?_)
  · obtain ⟨a, v1, v2, ev, hq, q⟩ := hs m v H' H2 hm hx hy
    refine ⟨a, [v1, v2], ev, hq, rfl, v1, [v2], rfl, v2, [], rfl, rfl, ?_⟩
    rw [(wipe2 hij).1]
    exact ⟨(wipe2 hij).2, q⟩
  · obtain ⟨a, xs, ev, hq, hl, v1, r, e1, v2, r2, e2, e3, q⟩ := q
    exact ⟨a, xs, ev, hq, hl, v1, r, e1, v2, r2, e2, e3, hm _ _ q⟩
variable {i j : Nat} {x y : Str}
/-- [elt for x in iter] -/
theorem e_lc (C : Kx X P w K mg base N sc k lv)
    (h : wI X (.Name x p) iter σ H fun J H1 => Src (fun n Y H1 => ∃ G : Nat → V → Hp → Prop, (∀ i v H H', Tk H H' → G i v H → G i v H') ∧
      (∀ m v H' H2, m < n → Ex H1 H' → Y m H' v H2 → Ex H' H2 ∧ ∀ X', Kx X' P w K mg base N (relS scope sc) k false → wE X' elt (σ.set i (some v)) H2 fun y H5 => Ex H2 H5 ∧ G m y H5) ∧ NewL n (fun _ => true) G H1 Q) J H1)
    (hN : N[i]? = some x := by rfl) (hx : Sto (relS scope sc) false x := by first | exact Or.inl rfl | exact Or.inr ⟨rfl, rfl⟩) (ok : blkC N sc scope [(x, i)] = true := by decide +kernel) (hs : ∀ x, foldedSetIterable iter X.env x = pure x := by intro _; rfl) :
    wE X (.ListComp elt [⟨.Name x p, iter, [], 0⟩] scope pos) σ H Q :=
  goE (lc_reads C (Nat.zero_le _) (gName i) (pgN (X := X) hN hx) ok hs) (lc_core1 C (Nat.zero_le _) (fun _ => true) (wI_mono (fun J H1 q => by
    obtain ⟨n, Gd, Y, wk, hn, hG, G, st, hs, hd⟩ := q
    exact ⟨n, Gd, Y, wk, hn, hG, G, st, fun m v H' H2 hm hx hy => ⟨(hs m v H' H2 hm hx hy).1, rfl, fun _ => (hs m v H' H2 hm hx hy).2⟩, hd⟩) h))
theorem s_lc {y : Str} {py spos : Pos} {i2 : Nat} {nx : L2.St → Hp → Prop} {rt : VK} {bk ct : L2.St → Hp → Prop} (C : Kx X P w K mg base N sc k lv)
    (h : wI X (.Name x p) iter σ H fun J H1 => Src (fun n Y H1 => ∃ G : Nat → V → Hp → Prop, (∀ i v H H', Tk H H' → G i v H → G i v H') ∧
      (∀ m v H' H2, m < n → Ex H1 H' → Y m H' v H2 → Ex H' H2 ∧ ∀ X', Kx X' P w K mg base N (relS scope sc) k false → wE X' elt (σ.set i (some v)) H2 fun y H5 => Ex H2 H5 ∧ G m y H5) ∧ NewL n (fun _ => true) G H1 (fun v H' => nx (σ.set i2 (some v)) H')) J H1)
    (hN : N[i]? = some x := by rfl) (hN2 : N[i2]? = some y := by rfl) (hy : sc.names.lookup y = some .local := by rfl) (hl : (py.line == pos.line) = true := by rfl) (ha : (scope.names.any fun (n, k) => n == y && (k == .local || k == .cell)) = false := by decide +kernel) (hx : Sto (relS scope sc) false x := by first | exact Or.inl rfl | exact Or.inr ⟨rfl, rfl⟩) (ok : blkC N sc scope [(x, i)] = true := by decide +kernel) (hs : ∀ x, foldedSetIterable iter X.env x = pure x := by intro _; rfl) :
    wS X (.Assign [.Name y py] (.ListComp elt [⟨.Name x p, iter, [], 0⟩] scope pos) spos) nx rt bk ct σ H :=
  goS (lc_readsS C (Nat.zero_le _) (gName i) (pgN (X := X) hN hx) ok hN2 hy hl ha hs) (lc_core1 C (Nat.zero_le _) (fun _ => true) (wI_mono (fun J H1 q => by
    obtain ⟨n, Gd, Y, wk, hn, hG, G, st, hs, hd⟩ := q
    exact ⟨n, Gd, Y, wk, hn, hG, G, st, fun m v H' H2 hm hx hy => ⟨(hs m v H' H2 hm hx hy).1, rfl, fun _ => (hs m v H' H2 hm hx hy).2⟩, hd⟩) h))
/-- [elt for x in iter if c] -/
theorem e_lcf (C : Kx X P w K mg base N sc k lv) (f : Nat → Bool)
    (h : wI X (.Name x p) iter σ H fun J H1 => Src (fun n Y H1 => ∃ G : Nat → V → Hp → Prop, (∀ i v H H', Tk H H' → G i v H → G i v H') ∧
      (∀ m v H' H2, m < n → Ex H1 H' → Y m H' v H2 → ∀ X', Kx X' P w K mg base N (relS scope sc) k false → wT X' c (σ.set i (some v)) H2 fun b H4 => Ex H' H4 ∧ b = f m ∧ (b = true → ∀ X', Kx X' P w K mg base N (relS scope sc) k false → wE X' elt (σ.set i (some v)) H4 fun y H5 => Ex H4 H5 ∧ G m y H5)) ∧ NewL n f G H1 Q) J H1)
    (hN : N[i]? = some x := by rfl) (hx : Sto (relS scope sc) false x := by first | exact Or.inl rfl | exact Or.inr ⟨rfl, rfl⟩) (ok : blkC N sc scope [(x, i)] = true := by decide +kernel) (hs : ∀ x, foldedSetIterable iter X.env x = pure x := by intro _; rfl) :
    wE X (.ListComp elt [⟨.Name x p, iter, [c], 0⟩] scope pos) σ H Q :=
  goE (lc_reads C (Nat.le_refl _) (gName i) (pgN (X := X) hN hx) ok hs) (lc_core1 C (Nat.le_refl _) f h)
theorem s_lcf {y : Str} {py spos : Pos} {i2 : Nat} {nx : L2.St → Hp → Prop} {rt : VK} {bk ct : L2.St → Hp → Prop} (C : Kx X P w K mg base N sc k lv) (f : Nat → Bool)
    (h : wI X (.Name x p) iter σ H fun J H1 => Src (fun n Y H1 => ∃ G : Nat → V → Hp → Prop, (∀ i v H H', Tk H H' → G i v H → G i v H') ∧
      (∀ m v H' H2, m < n → Ex H1 H' → Y m H' v H2 → ∀ X', Kx X' P w K mg base N (relS scope sc) k false → wT X' c (σ.set i (some v)) H2 fun b H4 => Ex H' H4 ∧ b = f m ∧ (b = true → ∀ X', Kx X' P w K mg base N (relS scope sc) k false → wE X' elt (σ.set i (some v)) H4 fun y H5 => Ex H4 H5 ∧ G m y H5)) ∧ NewL n f G H1 (fun v H' => nx (σ.set i2 (some v)) H')) J H1)
    (hN : N[i]? = some x := by rfl) (hN2 : N[i2]? = some y := by rfl) (hy : sc.names.lookup y = some .local := by rfl) (hl : (py.line == pos.line) = true := by rfl) (ha : (scope.names.any fun (n, k) => n == y && (k == .local || k == .cell)) = false := by decide +kernel) (hx : Sto (relS scope sc) false x := by first | exact Or.inl rfl | exact Or.inr ⟨rfl, rfl⟩) (ok : blkC N sc scope [(x, i)] = true := by decide +kernel) (hs : ∀ x, foldedSetIterable iter X.env x = pure x := by intro _; rfl) :
    wS X (.Assign [.Name y py] (.ListComp elt [⟨.Name x p, iter, [c], 0⟩] scope pos) spos) nx rt bk ct σ H :=
  goS (lc_readsS C (Nat.le_refl _) (gName i) (pgN (X := X) hN hx) ok hN2 hy hl ha hs) (lc_core1 C (Nat.le_refl _) f h)
/-- [elt for x, y in iter] -/
theorem e_lc2 {p1 p2 : Pos} {kk : Nat} (C : Kx X P w K mg base N sc k lv)
    (h : wI X (.Tuple [.Name x p1, .Name y p2] kk p) iter σ H fun J H1 => Src (fun n Y H1 => ∃ G : Nat → V → Hp → Prop, (∀ i v H H', Tk H H' → G i v H → G i v H') ∧
      (∀ m v H' H2, m < n → Ex H1 H' → Y m H' v H2 → ∃ a v1 v2, v = .ref a ∧ SqT K H2 a [v1, v2] ∧ Ex H' H2 ∧ ∀ X', Kx X' P w K mg base N (relS scope sc) k false → wE X' elt ((σ.set i (some v1)).set j (some v2)) H2 fun y H5 => Ex H2 H5 ∧ G m y H5) ∧ NewL n (fun _ => true) G H1 Q) J H1)
    (hN : N[i]? = some x := by rfl) (hN2 : N[j]? = some y := by rfl) (hij : i ≠ j := by decide) (hx : Sto (relS scope sc) false x := by first | exact Or.inl rfl | exact Or.inr ⟨rfl, rfl⟩) (hy : Sto (relS scope sc) false y := by first | exact Or.inl rfl | exact Or.inr ⟨rfl, rfl⟩) (ok : blkC N sc scope [(x, i), (y, j)] = true := by decide +kernel) (hs : ∀ x, foldedSetIterable iter X.env x = pure x := by intro _; rfl) :
    wE X (.ListComp elt [⟨.Tuple [.Name x p1, .Name y p2] kk p, iter, [], 0⟩] scope pos) σ H Q :=
  goE (lc_reads C (Nat.zero_le _) _ (pgT2 hN hN2 hx hy) ok hs) (lc_core2 C hij (Nat.zero_le _) (fun _ => true) (wI_mono (fun J H1 q => by
    obtain ⟨n, Gd, Y, wk, hn, hG, G, st, hs, hd⟩ := q
    exact ⟨n, Gd, Y, wk, hn, hG, G, st, fun m v H' H2 hm hx hy => by
      obtain ⟨a, v1, v2, ev, hq, ex, q⟩ := hs m v H' H2 hm hx hy
      exact ⟨a, v1, v2, ev, hq, ex, rfl, fun _ => q⟩, hd⟩) h))
/-- [elt for x, y in iter if c] -/
theorem e_lcf2 {p1 p2 : Pos} {kk : Nat} (C : Kx X P w K mg base N sc k lv) (f : Nat → Bool)
    (h : wI X (.Tuple [.Name x p1, .Name y p2] kk p) iter σ H fun J H1 => Src (fun n Y H1 => ∃ G : Nat → V → Hp → Prop, (∀ i v H H', Tk H H' → G i v H → G i v H') ∧
      (∀ m v H' H2, m < n → Ex H1 H' → Y m H' v H2 → ∃ a v1 v2, v = .ref a ∧ SqT K H2 a [v1, v2] ∧ ∀ X', Kx X' P w K mg base N (relS scope sc) k false → wT X' c ((σ.set i (some v1)).set j (some v2)) H2 fun b H4 => Ex H' H4 ∧ b = f m ∧ (b = true → ∀ X', Kx X' P w K mg base N (relS scope sc) k false → wE X' elt ((σ.set i (some v1)).set j (some v2)) H4 fun y H5 => Ex H4 H5 ∧ G m y H5)) ∧ NewL n f G H1 Q) J H1)
    (hN : N[i]? = some x := by rfl) (hN2 : N[j]? = some y := by rfl) (hij : i ≠ j := by decide) (hx : Sto (relS scope sc) false x := by first | exact Or.inl rfl | exact Or.inr ⟨rfl, rfl⟩) (hy : Sto (relS scope sc) false y := by first | exact Or.inl rfl | exact Or.inr ⟨rfl, rfl⟩) (ok : blkC N sc scope [(x, i), (y, j)] = true := by decide +kernel) (hs : ∀ x, foldedSetIterable iter X.env x = pure x := by intro _; rfl) :
    wE X (.ListComp elt [⟨.Tuple [.Name x p1, .Name y p2] kk p, iter, [c], 0⟩] scope pos) σ H Q :=
  goE (lc_reads C (Nat.le_refl _) _ (pgT2 hN hN2 hx hy) ok hs) (lc_core2 C hij (Nat.le_refl _) f (wI_mono (fun J H1 q => by
    obtain ⟨n, Gd, Y, wk, hn, hG, G, st, hs, hd⟩ := q
    exact ⟨n, Gd, Y, wk, hn, hG, G, st, fun m v H' H2 hm hx hy => by
      obtain ⟨a, v1, v2, ev, hq, q⟩ := hs m v H' H2 hm hx hy
      exact ⟨a, v1, v2, ev, hq, q⟩, hd⟩) h))
end
/-! ### pairs of lists -/
theorem paired_get {α β : Type} {F : α → β → Prop} : ∀ {l : List α} {r : List β}, Paired F l r → ∀ (i : Nat) (a : α), l[i]? = some a → ∃ b, r[i]? = some b ∧ F a b
  | _, _, .nil, i, a, h => by simp at h
  | _, _, .cons q t, 0, a, h => by simp at h; subst h; exact ⟨_, rfl, q⟩
  | _, _, .cons q t, i + 1, a, h => by
    obtain ⟨b, h1, h2⟩ := paired_get t i a (by simpa using h)
    exact ⟨b, by simpa using h1, h2⟩
theorem paired_map {α β γ : Type} {F : α → β → Prop} {G : γ → β → Prop} {f : α → γ} (hf : ∀ a b, F a b → G (f a) b) : ∀ {l : List α} {r : List β}, Paired F l r → Paired G (l.map f) r
  | _, _, .nil => .nil
  | _, _, .cons q t => .cons (hf _ _ q) (paired_map hf t)
theorem paired_eq {α β : Type} {F : α → β → Prop} {f : α → β} (hf : ∀ a b, F a b → b = f a) : ∀ {l : List α} {r : List β}, Paired F l r → r = l.map f
  | _, _, .nil => rfl
  | _, _, .cons q t => by rw [hf _ _ q, paired_eq hf t]; rfl
end DP
namespace DP
open PySem L2
theorem ex_bl {R : Bool → Prop} {c : Bool} (h : R c) : ∃ k, V.bl c = V.bl k ∧ R k := ⟨c, rfl, h⟩
theorem ex_int {R : Int → Prop} {c : Int} (h : R c) : ∃ k, V.int c = V.int k ∧ R k := ⟨c, rfl, h⟩
theorem ex_str {R : Str → Prop} {c : Str} (h : R c) : ∃ k, V.str c = V.str k ∧ R k := ⟨c, rfl, h⟩
theorem len_le {xs : List V} {R : Prop} (hl : xs.length ≤ 1000000) (h : R) : xs.length ≤ sizeLine ∧ R := ⟨Nat.le_trans hl (by decide), h⟩
theorem ite_d {c : Prop} [Decidable c] {A B : Prop} (h1 : c → A) (h2 : ¬ c → B) : if decide c = true then A else B := by
  by_cases h : c
  · rw [if_pos (decide_eq_true h)]; exact h1 h
  · rw [if_neg (by simp [h])]; exact h2 h
theorem ite_nd {c : Prop} [Decidable c] {A B : Prop} (h1 : ¬ c → A) (h2 : c → B) : if (!decide c) = true then A else B := by
  by_cases h : c
  · rw [if_neg (by simp [h])]; exact h2 h
  · rw [if_pos (by simp [h])]; exact h1 h
theorem ite_b {c : Bool} {A B : Prop} (h1 : c = true → A) (h2 : c = false → B) : if c = true then A else B := by
  cases c
  · exact h2 rfl
  · exact h1 rfl
theorem ite_nb {c : Bool} {A B : Prop} (h1 : c = false → A) (h2 : c = true → B) : if (!c) = true then A else B := by
  cases c
  · exact h1 rfl
  · exact h2 rfl
end DP
namespace DP
theorem ite_nt {A B : Prop} (h : B) : if (!true) = true then A else B := by
  rw [if_neg (by simp)]
  exact h
theorem ite_nf {A B : Prop} (h : A) : if (!false) = true then A else B := by
  rw [if_pos (by simp)]
  exact h
end DP
namespace DP
theorem ite_dt {c : Prop} [Decidable c] {A B : Prop} (hc : c) (h : A) : if decide c = true then A else B := by
  rw [if_pos (decide_eq_true hc)]; exact h
theorem ite_df {c : Prop} [Decidable c] {A B : Prop} (hc : ¬ c) (h : B) : if decide c = true then A else B := by
  rw [if_neg (by simp [hc])]; exact h
theorem ite_ndt {c : Prop} [Decidable c] {A B : Prop} (hc : c) (h : B) : if (!decide c) = true then A else B := by
  rw [if_neg (by simp [hc])]; exact h
theorem ite_ndf {c : Prop} [Decidable c] {A B : Prop} (hc : ¬ c) (h : A) : if (!decide c) = true then A else B := by
  rw [if_pos (by simp [hc])]; exact h
end DP
set_option Elab.async false
set_option linter.all false
set_option maxRecDepth 100000
set_option maxHeartbeats 1000000
namespace DP
open PySem L2
/-- the built-in names that the text leaves alone -/
structure Bn (mg : Str → Option Value) : Prop where
  n_len : mg "len" = none
  n_isinstance : mg "isinstance" = none
  n_all : mg "all" = none
  n_any : mg "any" = none
  n_sum : mg "sum" = none
  n_min : mg "min" = none
  n_max : mg "max" = none
  n_sorted : mg "sorted" = none
  n_int : mg "int" = none
  n_bool : mg "bool" = none
  n_tuple : mg "tuple" = none
  n_str : mg "str" = none
  n_list : mg "list" = none
  n_dict : mg "dict" = none
  n_set : mg "set" = none
  n_range : mg "range" = none
  n_enumerate : mg "enumerate" = none
  n_zip : mg "zip" = none
section
variable {X : Cx} {P : Program} {w : World} {K : PySem.W.Frag} {mg : Str → Option Value} {base : Heap} {N : List Str} {sc : Scope} {k : Nat} {lv : Bool}
variable {σ : L2.St} {H : Hp} {Q : VK} {pos p : Pos} {e : Expr} {es : List Expr}
theorem bt_len : bootBuiltins "len" = some (.builtin "len") := by decide +kernel
theorem f_len (C : Kx X P w K mg base N sc k lv) (B : Bn mg) (h : wA X (e :: es) σ H fun vs H1 => wC X (.builtin "len") vs H1 Q) (hg : sc.names.lookup ("len" : Str) = some .globalImplicit := by rfl) (he : starEach (e :: es) X.env = (false, eval e X.env) :: starEach es X.env := by rfl) (hpl : (backTo pos (starEach es X.env)).any (·.1) = false := by rfl) : wE X (.Call (.Name "len" p) (e :: es) [] pos) σ H Q := e_callB C B.n_len bt_len h hg (by decide) (by decide) he hpl
theorem bt_isinstance : bootBuiltins "isinstance" = some (.builtin "isinstance") := by decide +kernel
theorem f_isinstance (C : Kx X P w K mg base N sc k lv) (B : Bn mg) (h : wA X (e :: es) σ H fun vs H1 => wC X (.builtin "isinstance") vs H1 Q) (hg : sc.names.lookup ("isinstance" : Str) = some .globalImplicit := by rfl) (he : starEach (e :: es) X.env = (false, eval e X.env) :: starEach es X.env := by rfl) (hpl : (backTo pos (starEach es X.env)).any (·.1) = false := by rfl) : wE X (.Call (.Name "isinstance" p) (e :: es) [] pos) σ H Q := e_callB C B.n_isinstance bt_isinstance h hg (by decide) (by decide) he hpl
theorem bt_all : bootBuiltins "all" = some (.builtin "all") := by decide +kernel
theorem f_all (C : Kx X P w K mg base N sc k lv) (B : Bn mg) (h : wA X (e :: es) σ H fun vs H1 => wC X (.builtin "all") vs H1 Q) (hg : sc.names.lookup ("all" : Str) = some .globalImplicit := by rfl) (he : starEach (e :: es) X.env = (false, eval e X.env) :: starEach es X.env := by rfl) (hpl : (backTo pos (starEach es X.env)).any (·.1) = false := by rfl) : wE X (.Call (.Name "all" p) (e :: es) [] pos) σ H Q := e_callB C B.n_all bt_all h hg (by decide) (by decide) he hpl
theorem bt_any : bootBuiltins "any" = some (.builtin "any") := by decide +kernel
theorem f_any (C : Kx X P w K mg base N sc k lv) (B : Bn mg) (h : wA X (e :: es) σ H fun vs H1 => wC X (.builtin "any") vs H1 Q) (hg : sc.names.lookup ("any" : Str) = some .globalImplicit := by rfl) (he : starEach (e :: es) X.env = (false, eval e X.env) :: starEach es X.env := by rfl) (hpl : (backTo pos (starEach es X.env)).any (·.1) = false := by rfl) : wE X (.Call (.Name "any" p) (e :: es) [] pos) σ H Q := e_callB C B.n_any bt_any h hg (by decide) (by decide) he hpl
theorem bt_sum : bootBuiltins "sum" = some (.builtin "sum") := by decide +kernel
theorem f_sum (C : Kx X P w K mg base N sc k lv) (B : Bn mg) (h : wA X (e :: es) σ H fun vs H1 => wC X (.builtin "sum") vs H1 Q) (hg : sc.names.lookup ("sum" : Str) = some .globalImplicit := by rfl) (he : starEach (e :: es) X.env = (false, eval e X.env) :: starEach es X.env := by rfl) (hpl : (backTo pos (starEach es X.env)).any (·.1) = false := by rfl) : wE X (.Call (.Name "sum" p) (e :: es) [] pos) σ H Q := e_callB C B.n_sum bt_sum h hg (by decide) (by decide) he hpl
theorem bt_min : bootBuiltins "min" = some (.builtin "min") := by decide +kernel
theorem f_min (C : Kx X P w K mg base N sc k lv) (B : Bn mg) (h : wA X (e :: es) σ H fun vs H1 => wC X (.builtin "min") vs H1 Q) (hg : sc.names.lookup ("min" : Str) = some .globalImplicit := by rfl) (he : starEach (e :: es) X.env = (false, eval e X.env) :: starEach es X.env := by rfl) (hpl : (backTo pos (starEach es X.env)).any (·.1) = false := by rfl) : wE X (.Call (.Name "min" p) (e :: es) [] pos) σ H Q := e_callB C B.n_min bt_min h hg (by decide) (by decide) he hpl
theorem bt_max : bootBuiltins "max" = some (.builtin "max") := by decide +kernel
theorem f_max (C : Kx X P w K mg base N sc k lv) (B : Bn mg) (h : wA X (e :: es) σ H fun vs H1 => wC X (.builtin "max") vs H1 Q) (hg : sc.names.lookup ("max" : Str) = some .globalImplicit := by rfl) (he : starEach (e :: es) X.env = (false, eval e X.env) :: starEach es X.env := by rfl) (hpl : (backTo pos (starEach es X.env)).any (·.1) = false := by rfl) : wE X (.Call (.Name "max" p) (e :: es) [] pos) σ H Q := e_callB C B.n_max bt_max h hg (by decide) (by decide) he hpl
theorem bt_sorted : bootBuiltins "sorted" = some (.builtin "sorted") := by decide +kernel
theorem f_sorted (C : Kx X P w K mg base N sc k lv) (B : Bn mg) (h : wA X (e :: es) σ H fun vs H1 => wC X (.builtin "sorted") vs H1 Q) (hg : sc.names.lookup ("sorted" : Str) = some .globalImplicit := by rfl) (he : starEach (e :: es) X.env = (false, eval e X.env) :: starEach es X.env := by rfl) (hpl : (backTo pos (starEach es X.env)).any (·.1) = false := by rfl) : wE X (.Call (.Name "sorted" p) (e :: es) [] pos) σ H Q := e_callB C B.n_sorted bt_sorted h hg (by decide) (by decide) he hpl
theorem bt_int : bootBuiltins "int" = some (.type "int") := by decide +kernel
theorem f_int (C : Kx X P w K mg base N sc k lv) (B : Bn mg) (h : wA X (e :: es) σ H fun vs H1 => wC X (.type "int") vs H1 Q) (hg : sc.names.lookup ("int" : Str) = some .globalImplicit := by rfl) (he : starEach (e :: es) X.env = (false, eval e X.env) :: starEach es X.env := by rfl) (hpl : (backTo pos (starEach es X.env)).any (·.1) = false := by rfl) : wE X (.Call (.Name "int" p) (e :: es) [] pos) σ H Q := e_callTy C B.n_int bt_int h hg (by decide) (by decide) he hpl
theorem n_int (C : Kx X P w K mg base N sc k lv) (B : Bn mg) (h : Q (.ty "int") H) (hg : sc.names.lookup ("int" : Str) = some .globalImplicit := by rfl) : wE X (.Name "int" pos) σ H Q := e_blt (v := .ty "int") C B.n_int bt_int rfl h hg (by decide) (by decide)
theorem bt_bool : bootBuiltins "bool" = some (.type "bool") := by decide +kernel
theorem f_bool (C : Kx X P w K mg base N sc k lv) (B : Bn mg) (h : wA X (e :: es) σ H fun vs H1 => wC X (.type "bool") vs H1 Q) (hg : sc.names.lookup ("bool" : Str) = some .globalImplicit := by rfl) (he : starEach (e :: es) X.env = (false, eval e X.env) :: starEach es X.env := by rfl) (hpl : (backTo pos (starEach es X.env)).any (·.1) = false := by rfl) : wE X (.Call (.Name "bool" p) (e :: es) [] pos) σ H Q := e_callTy C B.n_bool bt_bool h hg (by decide) (by decide) he hpl
theorem n_bool (C : Kx X P w K mg base N sc k lv) (B : Bn mg) (h : Q (.ty "bool") H) (hg : sc.names.lookup ("bool" : Str) = some .globalImplicit := by rfl) : wE X (.Name "bool" pos) σ H Q := e_blt (v := .ty "bool") C B.n_bool bt_bool rfl h hg (by decide) (by decide)
theorem bt_tuple : bootBuiltins "tuple" = some (.type "tuple") := by decide +kernel
theorem f_tuple (C : Kx X P w K mg base N sc k lv) (B : Bn mg) (h : wA X (e :: es) σ H fun vs H1 => wC X (.type "tuple") vs H1 Q) (hg : sc.names.lookup ("tuple" : Str) = some .globalImplicit := by rfl) (he : starEach (e :: es) X.env = (false, eval e X.env) :: starEach es X.env := by rfl) (hpl : (backTo pos (starEach es X.env)).any (·.1) = false := by rfl) : wE X (.Call (.Name "tuple" p) (e :: es) [] pos) σ H Q := e_callTy C B.n_tuple bt_tuple h hg (by decide) (by decide) he hpl
theorem n_tuple (C : Kx X P w K mg base N sc k lv) (B : Bn mg) (h : Q (.ty "tuple") H) (hg : sc.names.lookup ("tuple" : Str) = some .globalImplicit := by rfl) : wE X (.Name "tuple" pos) σ H Q := e_blt (v := .ty "tuple") C B.n_tuple bt_tuple rfl h hg (by decide) (by decide)
theorem bt_str : bootBuiltins "str" = some (.type "str") := by decide +kernel
theorem f_str (C : Kx X P w K mg base N sc k lv) (B : Bn mg) (h : wA X (e :: es) σ H fun vs H1 => wC X (.type "str") vs H1 Q) (hg : sc.names.lookup ("str" : Str) = some .globalImplicit := by rfl) (he : starEach (e :: es) X.env = (false, eval e X.env) :: starEach es X.env := by rfl) (hpl : (backTo pos (starEach es X.env)).any (·.1) = false := by rfl) : wE X (.Call (.Name "str" p) (e :: es) [] pos) σ H Q := e_callTy C B.n_str bt_str h hg (by decide) (by decide) he hpl
theorem n_str (C : Kx X P w K mg base N sc k lv) (B : Bn mg) (h : Q (.ty "str") H) (hg : sc.names.lookup ("str" : Str) = some .globalImplicit := by rfl) : wE X (.Name "str" pos) σ H Q := e_blt (v := .ty "str") C B.n_str bt_str rfl h hg (by decide) (by decide)
theorem bt_list : bootBuiltins "list" = some (.type "list") := by decide +kernel
theorem f_list (C : Kx X P w K mg base N sc k lv) (B : Bn mg) (h : wA X (e :: es) σ H fun vs H1 => wC X (.type "list") vs H1 Q) (hg : sc.names.lookup ("list" : Str) = some .globalImplicit := by rfl) (he : starEach (e :: es) X.env = (false, eval e X.env) :: starEach es X.env := by rfl) (hpl : (backTo pos (starEach es X.env)).any (·.1) = false := by rfl) : wE X (.Call (.Name "list" p) (e :: es) [] pos) σ H Q := e_callTy C B.n_list bt_list h hg (by decide) (by decide) he hpl
theorem n_list (C : Kx X P w K mg base N sc k lv) (B : Bn mg) (h : Q (.ty "list") H) (hg : sc.names.lookup ("list" : Str) = some .globalImplicit := by rfl) : wE X (.Name "list" pos) σ H Q := e_blt (v := .ty "list") C B.n_list bt_list rfl h hg (by decide) (by decide)
theorem bt_dict : bootBuiltins "dict" = some (.type "dict") := by decide +kernel
theorem f_dict (C : Kx X P w K mg base N sc k lv) (B : Bn mg) (h : wA X (e :: es) σ H fun vs H1 => wC X (.type "dict") vs H1 Q) (hg : sc.names.lookup ("dict" : Str) = some .globalImplicit := by rfl) (he : starEach (e :: es) X.env = (false, eval e X.env) :: starEach es X.env := by rfl) (hpl : (backTo pos (starEach es X.env)).any (·.1) = false := by rfl) : wE X (.Call (.Name "dict" p) (e :: es) [] pos) σ H Q := e_callTy C B.n_dict bt_dict h hg (by decide) (by decide) he hpl
theorem n_dict (C : Kx X P w K mg base N sc k lv) (B : Bn mg) (h : Q (.ty "dict") H) (hg : sc.names.lookup ("dict" : Str) = some .globalImplicit := by rfl) : wE X (.Name "dict" pos) σ H Q := e_blt (v := .ty "dict") C B.n_dict bt_dict rfl h hg (by decide) (by decide)
theorem bt_set : bootBuiltins "set" = some (.type "set") := by decide +kernel
theorem f_set (C : Kx X P w K mg base N sc k lv) (B : Bn mg) (h : wA X (e :: es) σ H fun vs H1 => wC X (.type "set") vs H1 Q) (hg : sc.names.lookup ("set" : Str) = some .globalImplicit := by rfl) (he : starEach (e :: es) X.env = (false, eval e X.env) :: starEach es X.env := by rfl) (hpl : (backTo pos (starEach es X.env)).any (·.1) = false := by rfl) : wE X (.Call (.Name "set" p) (e :: es) [] pos) σ H Q := e_callTy C B.n_set bt_set h hg (by decide) (by decide) he hpl
theorem n_set (C : Kx X P w K mg base N sc k lv) (B : Bn mg) (h : Q (.ty "set") H) (hg : sc.names.lookup ("set" : Str) = some .globalImplicit := by rfl) : wE X (.Name "set" pos) σ H Q := e_blt (v := .ty "set") C B.n_set bt_set rfl h hg (by decide) (by decide)
theorem bt_range : bootBuiltins "range" = some (.type "range") := by decide +kernel
theorem f_range (C : Kx X P w K mg base N sc k lv) (B : Bn mg) (h : wA X (e :: es) σ H fun vs H1 => wC X (.type "range") vs H1 Q) (hg : sc.names.lookup ("range" : Str) = some .globalImplicit := by rfl) (he : starEach (e :: es) X.env = (false, eval e X.env) :: starEach es X.env := by rfl) (hpl : (backTo pos (starEach es X.env)).any (·.1) = false := by rfl) : wE X (.Call (.Name "range" p) (e :: es) [] pos) σ H Q := e_callTy C B.n_range bt_range h hg (by decide) (by decide) he hpl
theorem n_range (C : Kx X P w K mg base N sc k lv) (B : Bn mg) (h : Q (.ty "range") H) (hg : sc.names.lookup ("range" : Str) = some .globalImplicit := by rfl) : wE X (.Name "range" pos) σ H Q := e_blt (v := .ty "range") C B.n_range bt_range rfl h hg (by decide) (by decide)
theorem bt_enumerate : bootBuiltins "enumerate" = some (.type "enumerate") := by decide +kernel
theorem f_enumerate (C : Kx X P w K mg base N sc k lv) (B : Bn mg) (h : wA X (e :: es) σ H fun vs H1 => wC X (.type "enumerate") vs H1 Q) (hg : sc.names.lookup ("enumerate" : Str) = some .globalImplicit := by rfl) (he : starEach (e :: es) X.env = (false, eval e X.env) :: starEach es X.env := by rfl) (hpl : (backTo pos (starEach es X.env)).any (·.1) = false := by rfl) : wE X (.Call (.Name "enumerate" p) (e :: es) [] pos) σ H Q := e_callTy C B.n_enumerate bt_enumerate h hg (by decide) (by decide) he hpl
theorem n_enumerate (C : Kx X P w K mg base N sc k lv) (B : Bn mg) (h : Q (.ty "enumerate") H) (hg : sc.names.lookup ("enumerate" : Str) = some .globalImplicit := by rfl) : wE X (.Name "enumerate" pos) σ H Q := e_blt (v := .ty "enumerate") C B.n_enumerate bt_enumerate rfl h hg (by decide) (by decide)
theorem bt_zip : bootBuiltins "zip" = some (.type "zip") := by decide +kernel
theorem f_zip (C : Kx X P w K mg base N sc k lv) (B : Bn mg) (h : wA X (e :: es) σ H fun vs H1 => wC X (.type "zip") vs H1 Q) (hg : sc.names.lookup ("zip" : Str) = some .globalImplicit := by rfl) (he : starEach (e :: es) X.env = (false, eval e X.env) :: starEach es X.env := by rfl) (hpl : (backTo pos (starEach es X.env)).any (·.1) = false := by rfl) : wE X (.Call (.Name "zip" p) (e :: es) [] pos) σ H Q := e_callTy C B.n_zip bt_zip h hg (by decide) (by decide) he hpl
theorem n_zip (C : Kx X P w K mg base N sc k lv) (B : Bn mg) (h : Q (.ty "zip") H) (hg : sc.names.lookup ("zip" : Str) = some .globalImplicit := by rfl) : wE X (.Name "zip" pos) σ H Q := e_blt (v := .ty "zip") C B.n_zip bt_zip rfl h hg (by decide) (by decide)
theorem fin {Q : VK} {v u : V} {H : Hp} (h : Q v H) (e : v = u) : Q u H := e ▸ h
theorem sqt_no {K : PySem.W.Frag} {H : Hp} {a : Addr} {xs : List V} (h : SqT K (fun _ => none) a xs) : SqT K H a xs := by
  rcases h with (h | ⟨o, h⟩) | h
  · cases h
  · cases h
  · exact .inr h
/-- a name of the module that holds a written tuple -/
def GT (K : PySem.W.Frag) (mg : Str → Option Value) (x : Str) (xs : List V) : Prop := ∃ a, mg x = some (.ref a) ∧ SqT K (fun _ => none) a xs
theorem e_gt {x : Str} {xs : List V} (C : Kx X P w K mg base N sc k lv) (g : GT K mg x xs) (h : ∀ a, SqT K (fun _ => none) a xs → Q (.ref a) H) (hg : sc.names.lookup x = some .globalImplicit := by rfl) (hd : (x == ("__debug__" : Str)) = false := by decide) : wE X (.Name x pos) σ H Q := by
  obtain ⟨a, hm, hs⟩ := g
  exact e_glob (v := .ref a) C ⟨_, hm, rfl⟩ (h a hs) hg hd
/-- the answer of a pure def: a value that leans on no object -/
def Ret (v : V) (H : Hp) (Q : VK) : Prop := ∀ H', Ex H H' → Q v H'
theorem Ret.go {v u : V} {H H' : Hp} {Q : VK} (q : Ret v H Q) (e : v = u) (x : Ex H H') : Q u H' := e ▸ q H' x
end
theorem ints_eq_bools {f : Nat → Bool} {l : List Nat} {ys : List V} {H : Hp} (h : Paired (fun i y => y = V.bl (f i)) l ys) : ys = (l.map f).map V.bl := by
  rw [List.map_map]
  exact paired_eq (fun a b q => q) h
theorem range_map_get {α β : Type} (f : α → β) (l : List α) (d : β) : (List.range l.length).map (fun i => (l.map f).getD i d) = l.map f := by
  apply List.ext_getElem
  · simp
  · intro i h1 h2
    simp at h1 h2
    simp [List.getD, h1]
end DP
set_option Elab.async false
set_option linter.all false
set_option maxRecDepth 100000
set_option maxHeartbeats 1000000
namespace DP
open PySem L2
/-! ### isinstance of the kinds that the text meets -/
section
variable {X : Cx} {P : Program} {w : World} {K : PySem.W.Frag} {mg : Str → Option Value} {base : Heap} {N : List Str} {sc : Scope} {k : Nat} {lv : Bool}
variable {σ : L2.St} {H : Hp} {Q : VK}
theorem kb_ii : kitB "int" "int" = some true := by decide +kernel
theorem kb_ib : kitB "int" "bool" = some false := by decide +kernel
theorem kb_ss : kitB "str" "str" = some true := by decide +kernel
theorem kb_tt : kitB "tuple" "tuple" = some true := by decide +kernel
theorem isi_ii (C : Kx X P w K mg base N sc k lv) {i : Int} (h : Q (.bl true) H) : wC X (.builtin "isinstance") [.int i, .ty "int"] H Q := c_isi C (.base (.int i)) kb_ii h
theorem isi_ib (C : Kx X P w K mg base N sc k lv) {i : Int} (h : Q (.bl false) H) : wC X (.builtin "isinstance") [.int i, .ty "bool"] H Q := c_isi C (.base (.int i)) kb_ib h
theorem isi_ss (C : Kx X P w K mg base N sc k lv) {i : Str} (h : Q (.bl true) H) : wC X (.builtin "isinstance") [.str i, .ty "str"] H Q := c_isi C (.base (.str i)) kb_ss h
theorem isi_tt (C : Kx X P w K mg base N sc k lv) {a : Addr} {xs : List V} (hq : SqT K H a xs) (h : Q (.bl true) H) : wC X (.builtin "isinstance") [.ref a, .ty "tuple"] H Q := by
  rcases hq with (hq | ⟨o, hq⟩) | ⟨o, its, n, hl, hc, _⟩
  · exact c_isi C (.base (.tup hq)) kb_tt h
  · exact c_isi C (.fTuple hq) kb_tt h
  · exact c_isi C (.kTuple hl hc) kb_tt h
end
/-! ### the calendar, in plain words -/
def isLong (y : Int) : Bool := (decide (y % 4 = 0) && !decide (y % 100 = 0)) || decide (y % 400 = 0)
def mlen (y m : Int) : Int := if m = 2 then (if isLong y = true then 29 else 28) else if m = 4 ∨ m = 6 ∨ m = 9 ∨ m = 11 then 30 else 31
theorem mlen_bd (y m : Int) : 28 ≤ mlen y m ∧ mlen y m ≤ 31 := by
  unfold mlen
  split
  · split <;> decide
  · split <;> decide
def isCnt (v lo hi : Int) : Bool := decide (lo ≤ v) && decide (v ≤ hi)
theorem isCnt_iff {v lo hi : Int} : isCnt v lo hi = true ↔ lo ≤ v ∧ v ≤ hi := by simp [isCnt]
abbrev Dt := Int × Int × Int
def isDt (d : Dt) : Bool := isCnt d.1 1600 2399 && (isCnt d.2.1 1 12 && isCnt d.2.2 1 (mlen d.1 d.2.1))
def isSp (a b : Int) : Bool := isCnt a 1600 2399 && isCnt b 1600 2399 && (decide (a ≤ b) && decide (b < a + 12))
def piy (d : Dt) : Int := ((List.range (d.2.1 - 1).toNat).map fun (i : Nat) => mlen d.1 (1 + (i : Int))).sum + d.2.2
def wdIx (d : Dt) : Int := (365 * (d.1 - 1) + (d.1 - 1) / 4 - (d.1 - 1) / 100 + (d.1 - 1) / 400 + piy d - 1) % 7
def wdNames : List Str := ["mon", "tue", "wed", "thu", "fri", "sat", "sun"]
def wdName (d : Dt) : Str := wdNames.getD (wdIx d).toNat ""
theorem wdIx_bd (d : Dt) : 0 ≤ wdIx d ∧ wdIx d < 7 := by unfold wdIx; omega
def monthDays (y m : Int) : List Dt := (List.range (mlen y m).toNat).map fun (i : Nat) => (y, m, 1 + (i : Int))
def yearDays (y : Int) : List Dt := (List.range 12).flatMap fun (i : Nat) => monthDays y (1 + (i : Int))
def datesIn (a b : Int) : List Dt := (List.range (b + 1 - a).toNat).flatMap fun (i : Nat) => yearDays (a + (i : Int))
/-! ### dates, patterns, spans in the heap -/
def DateV (K : PySem.W.Frag) (H : Hp) (d : Dt) (v : V) : Prop := ∃ a, v = .ref a ∧ SqT K H a [.int d.1, .int d.2.1, .int d.2.2]
def StrsV (K : PySem.W.Frag) (H : Hp) (ps : List Str) (v : V) : Prop := ∃ a, v = .ref a ∧ SqT K H a (ps.map V.str)
theorem DateV.tk {K : PySem.W.Frag} {H H' : Hp} {d : Dt} {v : V} (e : Tk H H') (h : DateV K H d v) : DateV K H' d v := by
  obtain ⟨a, e1, h⟩ := h
  exact ⟨a, e1, sqt_tk e h⟩
theorem StrsV.tk {K : PySem.W.Frag} {H H' : Hp} {d : List Str} {v : V} (e : Tk H H') (h : StrsV K H d v) : StrsV K H' d v := by
  obtain ⟨a, e1, h⟩ := h
  exact ⟨a, e1, sqt_tk e h⟩
def DatesV (K : PySem.W.Frag) (H : Hp) (ds : List Dt) (xs : List V) : Prop := Paired (DateV K H) ds xs
theorem DatesV.tk {K : PySem.W.Frag} {H H' : Hp} {ds : List Dt} {xs : List V} (e : Tk H H') (h : DatesV K H ds xs) : DatesV K H' ds xs := Paired.mapP h fun _ _ q => q.tk e
theorem paired_app {α β : Type} {F : α → β → Prop} : ∀ {l l' : List α} {r r' : List β}, Paired F l r → Paired F l' r' → Paired F (l ++ l') (r ++ r')
  | _, _, _, _, .nil, h => h
  | _, _, _, _, .cons q t, h => .cons q (paired_app t h)
theorem DatesV.len {K : PySem.W.Frag} {H : Hp} {ds : List Dt} {xs : List V} (h : DatesV K H ds xs) : xs.length = ds.length := (Paired.length h).symm
/-! ### the promises -/
def sp_is_count : Sp := fun vs H Q _ => ∃ v lo hi, vs = [.int v, .int lo, .int hi] ∧ Ret (.bl (isCnt v lo hi)) H Q
def sp_is_long : Sp := fun vs H Q _ => ∃ y, vs = [.int y] ∧ Ret (.bl (isLong y)) H Q
def sp_month_length : Sp := fun vs H Q _ => ∃ y m, vs = [.int y, .int m] ∧ Ret (.int (mlen y m)) H Q
def sp_is_date (K : PySem.W.Frag) : Sp := fun vs H Q _ => ∃ v d, vs = [v] ∧ DateV K H d v ∧ Ret (.bl (isDt d)) H Q
def SpanV (K : PySem.W.Frag) (H : Hp) (a b : Int) (v : V) : Prop := ∃ ad, v = .ref ad ∧ SqT K H ad [.int a, .int b]
theorem SpanV.tk {K : PySem.W.Frag} {H H' : Hp} {a b : Int} {v : V} (e : Tk H H') (h : SpanV K H a b v) : SpanV K H' a b v := by
  obtain ⟨ad, e1, h⟩ := h
  exact ⟨ad, e1, sqt_tk e h⟩
def sp_is_span (K : PySem.W.Frag) : Sp := fun vs H Q _ => ∃ v a b, vs = [v] ∧ SpanV K H a b v ∧ Ret (.bl (isSp a b)) H Q
def sp_need_date (K : PySem.W.Frag) : Sp := fun vs H Q _ => ∃ v d, vs = [v] ∧ DateV K H d v ∧ isDt d = true ∧ Ret .non H Q
def sp_need_span (K : PySem.W.Frag) : Sp := fun vs H Q _ => ∃ v a b, vs = [v] ∧ SpanV K H a b v ∧ isSp a b = true ∧ Ret .non H Q
def sp_piy (K : PySem.W.Frag) : Sp := fun vs H Q _ => ∃ v d, vs = [v] ∧ DateV K H d v ∧ (0 ≤ d.2.1 ∧ d.2.1 ≤ 100) ∧ Ret (.int (piy d)) H Q
def sp_weekday_of (K : PySem.W.Frag) : Sp := fun vs H Q _ => ∃ v d, vs = [v] ∧ DateV K H d v ∧ (0 ≤ d.2.1 ∧ d.2.1 ≤ 100) ∧ Ret (.str (wdName d)) H Q
def sp_weekday (K : PySem.W.Frag) : Sp := fun vs H Q _ => ∃ v d, vs = [v] ∧ DateV K H d v ∧ isDt d = true ∧ Ret (.str (wdName d)) H Q
def sp_day_of_year (K : PySem.W.Frag) : Sp := fun vs H Q _ => ∃ v d, vs = [v] ∧ DateV K H d v ∧ isDt d = true ∧ Ret (.int (piy d)) H Q
/-- a new list of dates -/
def RetDs (K : PySem.W.Frag) (ds : List Dt) (H : Hp) (Q : VK) : Prop := ∀ p H' xs, H p = none → Ex H H' → H' p = some (.lst xs) → DatesV K H' ds xs → Q (.ref p) H'
def sp_dates_in (K : PySem.W.Frag) : Sp := fun vs H Q _ => ∃ v a b, vs = [v] ∧ SpanV K H a b v ∧ (0 ≤ a ∧ a ≤ 10000 ∧ 0 ≤ b ∧ b ≤ a + 100) ∧ RetDs K (datesIn a b) H Q
def sp_dates (K : PySem.W.Frag) : Sp := fun vs H Q _ => ∃ v a b, vs = [v] ∧ SpanV K H a b v ∧ isSp a b = true ∧ RetDs K (datesIn a b) H Q
end DP
namespace DP
open PySem L2
section
variable {K : PySem.W.Frag} {H : Hp} {Q : VK} {E : XK} {d : Dt} {v : V} {a b : Int}
theorem u_is_count {v lo hi : Int} (q : Ret (.bl (isCnt v lo hi)) H Q) : sp_is_count [.int v, .int lo, .int hi] H Q E := ⟨v, lo, hi, rfl, q⟩
theorem u_is_long {y : Int} (q : Ret (.bl (isLong y)) H Q) : sp_is_long [.int y] H Q E := ⟨y, rfl, q⟩
theorem u_month_length {y m : Int} (q : Ret (.int (mlen y m)) H Q) : sp_month_length [.int y, .int m] H Q E := ⟨y, m, rfl, q⟩
theorem u_is_date (hd : DateV K H d v) (q : Ret (.bl (isDt d)) H Q) : sp_is_date K [v] H Q E := ⟨v, d, rfl, hd, q⟩
theorem u_is_span (hd : SpanV K H a b v) (q : Ret (.bl (isSp a b)) H Q) : sp_is_span K [v] H Q E := ⟨v, a, b, rfl, hd, q⟩
theorem u_need_date (hd : DateV K H d v) (h : isDt d = true) (q : Ret .non H Q) : sp_need_date K [v] H Q E := ⟨v, d, rfl, hd, h, q⟩
theorem u_need_span (hd : SpanV K H a b v) (h : isSp a b = true) (q : Ret .non H Q) : sp_need_span K [v] H Q E := ⟨v, a, b, rfl, hd, h, q⟩
theorem u_piy (hd : DateV K H d v) (h : 0 ≤ d.2.1 ∧ d.2.1 ≤ 100) (q : Ret (.int (piy d)) H Q) : sp_piy K [v] H Q E := ⟨v, d, rfl, hd, h, q⟩
theorem u_weekday_of (hd : DateV K H d v) (h : 0 ≤ d.2.1 ∧ d.2.1 ≤ 100) (q : Ret (.str (wdName d)) H Q) : sp_weekday_of K [v] H Q E := ⟨v, d, rfl, hd, h, q⟩
theorem u_weekday (hd : DateV K H d v) (h : isDt d = true) (q : Ret (.str (wdName d)) H Q) : sp_weekday K [v] H Q E := ⟨v, d, rfl, hd, h, q⟩
theorem u_day_of_year (hd : DateV K H d v) (h : isDt d = true) (q : Ret (.int (piy d)) H Q) : sp_day_of_year K [v] H Q E := ⟨v, d, rfl, hd, h, q⟩
theorem u_dates_in (hd : SpanV K H a b v) (h : 0 ≤ a ∧ a ≤ 10000 ∧ 0 ≤ b ∧ b ≤ a + 100) (q : RetDs K (datesIn a b) H Q) : sp_dates_in K [v] H Q E := ⟨v, a, b, rfl, hd, h, q⟩
theorem u_dates (hd : SpanV K H a b v) (h : isSp a b = true) (q : RetDs K (datesIn a b) H Q) : sp_dates K [v] H Q E := ⟨v, a, b, rfl, hd, h, q⟩
end
theorem isDt_m {d : Dt} (h : isDt d = true) : 0 ≤ d.2.1 ∧ d.2.1 ≤ 100 := by
  simp [isDt, isCnt] at h
  omega
theorem isSp_b {a b : Int} (h : isSp a b = true) : 0 ≤ a ∧ a ≤ 10000 ∧ 0 ≤ b ∧ b ≤ a + 100 := by
  simp [isSp, isCnt] at h
  omega
end DP
set_option Elab.async false
set_option linter.all false
set_option maxRecDepth 100000
set_option maxHeartbeats 1000000
namespace DP
open PySem L2
section
variable {X : Cx} {P : Program} {w : World} {K : PySem.W.Frag} {mg : Str → Option Value} {base : Heap} {N : List Str} {sc : Scope} {k : Nat} {lv : Bool}
variable {σ : L2.St} {H : Hp} {pos p : Pos} {tg elt iter c e e1 e2 : Expr} {scope : Scope} {Q : VK} {α : Type}
/-- a source that hands out the items xs as they stand -/
def SrcX (B : List V → Hp → Prop) (J : It) (H1 : Hp) : Prop := ∃ xs Gd, Walk J xs.length Gd (YAt xs) ∧ (∀ H', Ex H1 H' → Gd H') ∧ B xs H1
theorem x_T {B : List V → Hp → Prop} (C : Kx X P w K mg base N sc k lv) (h : wE X e σ H fun v H1 => ∃ a xs, v = .ref a ∧ SqT K H1 a xs ∧ B xs H1) : wI X tg e σ H (SrcX B) :=
  i_T C (wE_mono (fun v H1 ⟨a, xs, ev, hq, q⟩ => ⟨a, xs, ev, hq, fun J wk => ⟨xs, _, wk, fun H' x => sqt_ex x hq, q⟩⟩) h)
theorem x_L {B : List V → Hp → Prop} (C : Kx X P w K mg base N sc k lv) (h : wE X e σ H fun v H1 => ∃ a xs, v = .ref a ∧ SqL K H1 a xs ∧ B xs H1) : wI X tg e σ H (SrcX B) :=
  i_L C (wE_mono (fun v H1 ⟨a, xs, ev, hq, q⟩ => ⟨a, xs, ev, hq, fun J wk => ⟨xs, _, wk, fun H' x => sql_ex x hq, q⟩⟩) h)
theorem x_S {B : List V → Hp → Prop} (h : wE X e σ H fun v H1 => ∃ z : Str, v = .str z ∧ B (z.cps.toList.map fun c => .str ⟨#[c]⟩) H1) : wI X tg e σ H (SrcX B) :=
  i_S (wE_mono (fun v H1 ⟨z, ev, q⟩ => ⟨z, ev, fun J wk => ⟨z.cps.toList.map fun c => .str ⟨#[c]⟩, fun _ => True, by
    rw [List.length_map]
    exact wk.mono (fun _ _ => True.intro) fun i H x H' hi _ hy => by
      obtain ⟨e1, c, e2, e3⟩ := hy
      refine ⟨e1, ?_⟩
      rw [List.getElem?_map, Array.getElem?_toList, e2, e3]
      rfl, fun _ _ => True.intro, q⟩⟩) h)
theorem x_R1 {B : List V → Hp → Prop} (C : Kx X P w K mg base N sc k lv) (Bb : Bn mg) (h : wE X e σ H fun v H1 => ∃ j : Int, v = .int j ∧ (-(2 ^ 62) ≤ j ∧ j < 2 ^ 62) ∧ B ((List.range j.toNat).map fun (i : Nat) => .int (0 + (i : Int))) H1)
    (hg : sc.names.lookup ("range" : Str) = some .globalImplicit := by rfl) (hs : starEach [e] X.env = [(false, eval e X.env)] := by rfl) : wI X tg (.Call (.Name "range" p) [e] [] pos) σ H (SrcX B) :=
  i_R1 C Bb.n_range (wE_mono (fun v H1 ⟨j, ev, hb, q⟩ => ⟨j, ev, hb, fun J wk => ⟨_, fun _ => True, by
    rw [List.length_map, List.length_range]
    exact wk.mono (fun _ h => h) fun i H x H' hi _ hy => by
      refine ⟨hy.1, ?_⟩
      rw [List.getElem?_map, List.getElem?_range hi, hy.2]
      rfl, fun _ _ => True.intro, q⟩⟩) h) hg hs
theorem x_R2 {B : List V → Hp → Prop} (C : Kx X P w K mg base N sc k lv) (Bb : Bn mg) (h : wE X e1 σ H fun v H1 => wE X e2 σ H1 fun u H2 => ∃ i j : Int, v = .int i ∧ u = .int j ∧ (-(2 ^ 62) ≤ i ∧ i < 2 ^ 62 ∧ -(2 ^ 62) ≤ j ∧ j < 2 ^ 62) ∧ B ((List.range (j - i).toNat).map fun (n : Nat) => .int (i + (n : Int))) H2)
    (hg : sc.names.lookup ("range" : Str) = some .globalImplicit := by rfl) (hs : starEach [e1, e2] X.env = [(false, eval e1 X.env), (false, eval e2 X.env)] := by rfl) (hs2 : starEach [e2] X.env = [(false, eval e2 X.env)] := by rfl) : wI X tg (.Call (.Name "range" p) [e1, e2] [] pos) σ H (SrcX B) :=
  i_R2 C Bb.n_range (wE_mono (fun v H1 q => wE_mono (fun u H2 ⟨i, j, e1, e2, hb, q⟩ => ⟨i, j, e1, e2, hb, fun J wk => ⟨_, fun _ => True, by
    rw [List.length_map, List.length_range]
    exact wk.mono (fun _ h => h) fun i H x H' hi _ hy => by
      refine ⟨hy.1, ?_⟩
      rw [List.getElem?_map, List.getElem?_range hi, hy.2]
      rfl, fun _ _ => True.intro, q⟩⟩) q) h) hg hs hs2
/-- the body of a comprehension and what follows it -/
def LcB (P : Program) (w : World) (K : PySem.W.Frag) (mg : Str → Option Value) (base : Heap) (N : List Str) (sc : Scope) (k : Nat) (elt : Expr) (σf : V → L2.St) (l : List α) (G : α → V → Hp → Prop) (Q : VK) (xs : List V) (H1 : Hp) : Prop :=
  ∃ R : α → V → Prop, Paired R l xs ∧ (∀ z u, z ∈ l → R z u → ∀ H', Ex H1 H' → ∀ X', Kx X' P w K mg base N sc k false → wE X' elt (σf u) H' fun y H5 => Ex H' H5 ∧ G z y H5) ∧
    (∀ D ys H', H1 D = none → Ex H1 H' → H' D = some (.lst ys) → Paired (fun z y => G z y H') l ys → Q (.ref D) H')
def LcFB (P : Program) (w : World) (K : PySem.W.Frag) (mg : Str → Option Value) (base : Heap) (N : List Str) (sc : Scope) (k : Nat) (elt c : Expr) (f : α → Bool) (σf : V → L2.St) (l : List α) (G : α → V → Hp → Prop) (Q : VK) (xs : List V) (H1 : Hp) : Prop :=
  ∃ R : α → V → Prop, Paired R l xs ∧ (∀ z u, z ∈ l → R z u → ∀ H', Ex H1 H' → ∀ X', Kx X' P w K mg base N sc k false → wT X' c (σf u) H' fun b H4 => Ex H' H4 ∧ b = f z ∧ (f z = true → ∀ X', Kx X' P w K mg base N sc k false → wE X' elt (σf u) H4 fun y H5 => Ex H4 H5 ∧ G z y H5)) ∧
    (∀ D ys H', H1 D = none → Ex H1 H' → H' D = some (.lst ys) → Paired (fun z y => G z y H') (l.filter f) ys → Q (.ref D) H')
theorem paired_ix {R : α → V → Prop} {l : List α} {xs : List V} (h : Paired R l xs) {m : Nat} {u : V} (hu : xs[m]? = some u) : ∃ z, l[m]? = some z ∧ R z u := by
  induction h generalizing m with
  | nil => simp at hu
  | cons r t ih =>
    cases m with
    | zero => simp at hu; subst hu; exact ⟨_, rfl, r⟩
    | succ m =>
      obtain ⟨z, h1, h2⟩ := ih (by simpa using hu)
      exact ⟨z, by simpa using h1, h2⟩
/-- from places to things -/
theorem paired_at {G : α → V → Prop} {f : α → Bool} : ∀ {l : List α} {ys : List V}, Paired (fun m y => ∃ z, l[m]? = some z ∧ G z y) ((List.range l.length).filter fun m => match l[m]? with | some z => f z | none => false) ys → Paired G (l.filter f) ys := by
  intro l
  induction l with
  | nil => intro ys h; cases h; exact .nil
  | cons a l ih =>
    intro ys h
    rw [List.length_cons, List.range_succ_eq_map, List.filter_cons] at h
    have shift : ∀ {zs : List V}, Paired (fun m y => ∃ z, (a :: l)[m]? = some z ∧ G z y) ((List.map Nat.succ (List.range l.length)).filter fun m => match (a :: l)[m]? with | some z => f z | none => false) zs → Paired (fun m y => ∃ z, l[m]? = some z ∧ G z y) ((List.range l.length).filter fun m => match l[m]? with | some z => f z | none => false) zs := by
      intro zs hz
      rw [List.filter_map] at hz
      have e : ((fun m => match (a :: l)[m]? with | some z => f z | none => false) ∘ Nat.succ) = fun m => match l[m]? with | some z => f z | none => false := by
        funext m
        simp
      rw [e] at hz
      generalize (List.range l.length).filter (fun m => match l[m]? with | some z => f z | none => false) = L at hz
      clear ih h e
      induction L generalizing zs with
      | nil => cases hz; exact .nil
      | cons b L ihL =>
        cases hz with
        | cons r t =>
          refine .cons ?_ (ihL t)
          obtain ⟨z, h1, h2⟩ := r
          exact ⟨z, by simpa using h1, h2⟩
    simp only [List.getElem?_cons_zero] at h
    rw [List.filter_cons]
    cases hf : f a with
    | true =>
      rw [if_pos hf] at h
      simp only [if_true]
      cases h with
      | cons r t =>
        obtain ⟨z, h1, h2⟩ := r
        simp at h1
        subst h1
        exact .cons h2 (ih (shift t))
    | false =>
      rw [if_neg (by rw [hf]; simp)] at h
      simp only [Bool.false_eq_true, if_false]
      exact ih (shift h)
def fAt (l : List α) (f : α → Bool) : Nat → Bool := fun m => match l[m]? with | some z => f z | none => false
theorem fAt_some {l : List α} {f : α → Bool} {m : Nat} {z : α} (h : l[m]? = some z) : fAt l f m = f z := by unfold fAt; rw [h]
theorem paired_atF {G : α → V → Prop} {f : α → Bool} {l : List α} {ys : List V} (h : Paired (fun m y => ∃ z, l[m]? = some z ∧ G z y) ((List.range l.length).filter (fAt l f)) ys) : Paired G (l.filter f) ys := paired_at h
theorem paired_atT {G : α → V → Prop} {l : List α} {ys : List V} (h : Paired (fun m y => ∃ z, l[m]? = some z ∧ G z y) ((List.range l.length).filter fun _ => true) ys) : Paired G l ys := by
  have e : (List.range l.length).filter (fAt l fun _ => true) = (List.range l.length).filter (fun _ => true) := by
    apply List.filter_congr
    intro m hm
    rw [fAt_some (List.getElem?_eq_getElem (List.mem_range.mp hm))]
  have := paired_atF (f := fun _ => true) (l := l) (ys := ys) (G := G) (by rw [e]; exact h)
  rw [List.filter_eq_self.mpr fun _ _ => rfl] at this
  exact this
theorem filter_tt {l : List α} : l.filter (fun _ => true) = l := List.filter_eq_self.mpr fun _ _ => rfl
variable {i j : Nat} {x y : Str}
theorem src_of {J : It} {H1 : Hp} {σf : V → L2.St} {l : List α} {G : α → V → Hp → Prop} (st : ∀ z v H H', Tk H H' → G z v H → G z v H') (hl : l.length ≤ 1000000) {sc' : Scope}
    (h : SrcX (LcB P w K mg base N sc' k elt σf l G Q) J H1) : Src (fun n Y H1 => ∃ G : Nat → V → Hp → Prop, (∀ i v H H', Tk H H' → G i v H → G i v H') ∧
      (∀ m v H' H2, m < n → Ex H1 H' → Y m H' v H2 → Ex H' H2 ∧ ∀ X', Kx X' P w K mg base N sc' k false → wE X' elt (σf v) H2 fun y H5 => Ex H2 H5 ∧ G m y H5) ∧ NewL n (fun _ => true) G H1 Q) J H1 := by
  obtain ⟨xs, Gd, wk, hG, R, hp, hb, hd⟩ := h
  have hlen := Paired.length hp
  refine ⟨xs.length, Gd, YAt xs, wk, by omega, hG, fun m y H => ∃ z, l[m]? = some z ∧ G z y H, fun m v H H' e ⟨z, h1, h2⟩ => ⟨z, h1, st _ _ _ _ e h2⟩, fun m v H' H2 hm hx hy => ?_, fun D ys H' nD hx hD hp' => hd D ys H' nD hx hD ?_⟩
  · obtain ⟨rfl, hu⟩ := hy
    obtain ⟨z, h1, h2⟩ := paired_ix hp hu
    refine ⟨Ex.refl _, fun X' C' => wE_mono (fun y H5 q => ⟨q.1, z, h1, q.2⟩) (hb z v (List.mem_of_getElem? h1) h2 _ hx X' C')⟩
  · rw [← hlen] at hp'
    have := paired_at (f := fun _ => true) (l := l) (ys := ys) (G := fun z y => G z y H') (by
      have e : (List.range l.length).filter (fun m => match l[m]? with | some z => true | none => false) = (List.range l.length).filter (fun _ => true) := by
        apply List.filter_congr
        intro m hm
        rw [List.getElem?_eq_getElem (List.mem_range.mp hm)]
      rw [e]
      exact hp')
    rw [filter_tt] at this
    exact this
theorem e_lcG (C : Kx X P w K mg base N sc k lv) (l : List α) (G : α → V → Hp → Prop) (st : ∀ z v H H', Tk H H' → G z v H → G z v H') (hl : l.length ≤ 1000000)
    (h : wI X (.Name x p) iter σ H (SrcX (LcB P w K mg base N (relS scope sc) k elt (fun u => σ.set i (some u)) l G Q)))
    (hN : N[i]? = some x := by rfl) (hx : Sto (relS scope sc) false x := by first | exact Or.inl rfl | exact Or.inr ⟨rfl, rfl⟩) (ok : blkC N sc scope [(x, i)] = true := by decide +kernel) (hs : ∀ x, foldedSetIterable iter X.env x = pure x := by intro _; rfl) :
    wE X (.ListComp elt [⟨.Name x p, iter, [], 0⟩] scope pos) σ H Q := e_lc C (wI_mono (fun J H1 q => src_of st hl q) h) hN hx ok hs
theorem s_lcG {py spos : Pos} {i2 : Nat} {nx : L2.St → Hp → Prop} {rt : VK} {bk ct : L2.St → Hp → Prop} (C : Kx X P w K mg base N sc k lv) (l : List α) (G : α → V → Hp → Prop) (st : ∀ z v H H', Tk H H' → G z v H → G z v H') (hl : l.length ≤ 1000000)
    (h : wI X (.Name x p) iter σ H (SrcX (LcB P w K mg base N (relS scope sc) k elt (fun u => σ.set i (some u)) l G (fun v H' => nx (σ.set i2 (some v)) H'))))
    (hN : N[i]? = some x := by rfl) (hN2 : N[i2]? = some y := by rfl) (hy : sc.names.lookup y = some .local := by rfl) (hl' : (py.line == pos.line) = true := by rfl) (ha : (scope.names.any fun (n, k) => n == y && (k == .local || k == .cell)) = false := by decide +kernel) (hx : Sto (relS scope sc) false x := by first | exact Or.inl rfl | exact Or.inr ⟨rfl, rfl⟩) (ok : blkC N sc scope [(x, i)] = true := by decide +kernel) (hs : ∀ x, foldedSetIterable iter X.env x = pure x := by intro _; rfl) :
    wS X (.Assign [.Name y py] (.ListComp elt [⟨.Name x p, iter, [], 0⟩] scope pos) spos) nx rt bk ct σ H := s_lc C (wI_mono (fun J H1 q => src_of st hl q) h) hN hN2 hy hl' ha hx ok hs
theorem srcF_of {J : It} {H1 : Hp} {σf : V → L2.St} {l : List α} {G : α → V → Hp → Prop} {f : α → Bool} (st : ∀ z v H H', Tk H H' → G z v H → G z v H') (hl : l.length ≤ 1000000) {sc' : Scope}
    (h : SrcX (LcFB P w K mg base N sc' k elt c f σf l G Q) J H1) : Src (fun n Y H1 => ∃ G : Nat → V → Hp → Prop, (∀ i v H H', Tk H H' → G i v H → G i v H') ∧
      (∀ m v H' H2, m < n → Ex H1 H' → Y m H' v H2 → ∀ X', Kx X' P w K mg base N sc' k false → wT X' c (σf v) H2 fun b H4 => Ex H' H4 ∧ b = (match l[m]? with | some z => f z | none => false) ∧ (b = true → ∀ X', Kx X' P w K mg base N sc' k false → wE X' elt (σf v) H4 fun y H5 => Ex H4 H5 ∧ G m y H5)) ∧ NewL n (fun m => match l[m]? with | some z => f z | none => false) G H1 Q) J H1 := by
  obtain ⟨xs, Gd, wk, hG, R, hp, hb, hd⟩ := h
  have hlen := Paired.length hp
  refine ⟨xs.length, Gd, YAt xs, wk, by omega, hG, fun m y H => ∃ z, l[m]? = some z ∧ G z y H, fun m v H H' e ⟨z, h1, h2⟩ => ⟨z, h1, st _ _ _ _ e h2⟩, fun m v H' H2 hm hx hy => ?_, fun D ys H' nD hx hD hp' => hd D ys H' nD hx hD ?_⟩
  · obtain ⟨rfl, hu⟩ := hy
    obtain ⟨z, h1, h2⟩ := paired_ix hp hu
    refine fun X' C' => wT_mono (fun b H4 q => ⟨q.1, ?_, fun hb X'' C'' => wE_mono (fun y H5 q => ⟨q.1, z, h1, q.2⟩) (q.2.2 ?_ X'' C'')⟩) (hb z v (List.mem_of_getElem? h1) h2 _ hx X' C')
    · rw [h1]; exact q.2.1
    · rw [← q.2.1]; exact hb
  · rw [← hlen] at hp'
    exact paired_at hp'
theorem e_lcFG (C : Kx X P w K mg base N sc k lv) (f : α → Bool) (l : List α) (G : α → V → Hp → Prop) (st : ∀ z v H H', Tk H H' → G z v H → G z v H') (hl : l.length ≤ 1000000)
    (h : wI X (.Name x p) iter σ H (SrcX (LcFB P w K mg base N (relS scope sc) k elt c f (fun u => σ.set i (some u)) l G Q)))
    (hN : N[i]? = some x := by rfl) (hx : Sto (relS scope sc) false x := by first | exact Or.inl rfl | exact Or.inr ⟨rfl, rfl⟩) (ok : blkC N sc scope [(x, i)] = true := by decide +kernel) (hs : ∀ x, foldedSetIterable iter X.env x = pure x := by intro _; rfl) :
    wE X (.ListComp elt [⟨.Name x p, iter, [c], 0⟩] scope pos) σ H Q := e_lcf C _ (wI_mono (fun J H1 q => srcF_of st hl q) h) hN hx ok hs
theorem s_lcFG {py spos : Pos} {i2 : Nat} {nx : L2.St → Hp → Prop} {rt : VK} {bk ct : L2.St → Hp → Prop} (C : Kx X P w K mg base N sc k lv) (f : α → Bool) (l : List α) (G : α → V → Hp → Prop) (st : ∀ z v H H', Tk H H' → G z v H → G z v H') (hl : l.length ≤ 1000000)
    (h : wI X (.Name x p) iter σ H (SrcX (LcFB P w K mg base N (relS scope sc) k elt c f (fun u => σ.set i (some u)) l G (fun v H' => nx (σ.set i2 (some v)) H'))))
    (hN : N[i]? = some x := by rfl) (hN2 : N[i2]? = some y := by rfl) (hy : sc.names.lookup y = some .local := by rfl) (hl' : (py.line == pos.line) = true := by rfl) (ha : (scope.names.any fun (n, k) => n == y && (k == .local || k == .cell)) = false := by decide +kernel) (hx : Sto (relS scope sc) false x := by first | exact Or.inl rfl | exact Or.inr ⟨rfl, rfl⟩) (ok : blkC N sc scope [(x, i)] = true := by decide +kernel) (hs : ∀ x, foldedSetIterable iter X.env x = pure x := by intro _; rfl) :
    wS X (.Assign [.Name y py] (.ListComp elt [⟨.Name x p, iter, [c], 0⟩] scope pos) spos) nx rt bk ct σ H := s_lcf C _ (wI_mono (fun J H1 q => srcF_of st hl q) h) hN hN2 hy hl' ha hx ok hs
/-- for x in .. -/
theorem s_forX {iter : Expr} {body : List Stmt} {nx : L2.St → Hp → Prop} {rt : VK} {bk ct : L2.St → Hp → Prop} (C : Kx X P w K mg base N sc k lv)
    (h : wI X tg iter σ H fun J H1 => ∃ xs Gd, Walk J xs.length Gd (YAt xs) ∧ ∃ Pv : Nat → L2.St → Hp → Prop, Pv 0 σ H1 ∧ (∀ i σ' H', Pv i σ' H' → Gd H') ∧
      (∀ i v σ' H', xs[i]? = some v → Pv i σ' H' → wG X tg v σ' H' fun σ2 H2 => wSs X body (Pv (i + 1)) rt nx (Pv (i + 1)) σ2 H2) ∧ (∀ σ' H', Pv xs.length σ' H' → nx σ' H'))
    (hs : ∀ x, foldedSetIterable iter X.env x = pure x := by intro _; rfl) : wS X (.For tg iter body [] pos) nx rt bk ct σ H :=
  s_forW C (wI_mono (fun J H1 ⟨xs, Gd, wk, Pv, h0, hG, hst, hd⟩ => ⟨xs.length, Gd, YAt xs, wk, Pv, h0, fun i σ' H' _ q => hG i σ' H' q, fun i v σ' H' H2 hi hP hy => by
    obtain ⟨rfl, hu⟩ := hy
    exact hst i v σ' _ hu hP, hd⟩) h) hs
end
end DP
namespace DP
open PySem L2
theorem paired_map2 {α β γ : Type} {R : β → γ → Prop} {f : α → β} {g : α → γ} (h : ∀ a, R (f a) (g a)) : ∀ l : List α, Paired R (l.map f) (l.map g)
  | [] => .nil
  | a :: l => .cons (h a) (paired_map2 h l)
theorem paired_self {β γ : Type} {R : β → γ → Prop} {g : β → γ} (h : ∀ a, R a (g a)) : ∀ l : List β, Paired R l (l.map g)
  | [] => .nil
  | a :: l => .cons (h a) (paired_self h l)
theorem atI_getD {α β : Type} {f : α → β} {l : List α} {i : Int} (d : α) (h0 : 0 ≤ i) (h1 : i < l.length) : atI (l.map f) i = some (f (l.getD i.toNat d)) := by
  have e : i = ((i.toNat : Nat) : Int) := by omega
  have hb : i.toNat < l.length := by omega
  rw [e]
  refine atI_nat ?_
  rw [List.getElem?_map, List.getElem?_eq_getElem hb, Int.toNat_natCast, List.getD_eq_getElem?_getD, List.getElem?_eq_getElem hb]
  rfl
section
variable {X : Cx} {P : Program} {w : World} {K : PySem.W.Frag} {mg : Str → Option Value} {base : Heap} {N : List Str} {sc : Scope} {k : Nat} {lv : Bool}
variable {σ : L2.St} {H : Hp} {Q : VK} {o e : Expr} {apos cpos : Pos}
/-- xs.append(e) -/
theorem m_app (h : wE X o σ H fun x H1 => ∃ a xs, x = .ref a ∧ H1 a = some (.lst xs) ∧ wE X e σ H1 fun v H2 => ∃ ys, H2 a = some (.lst ys) ∧ ys.length < sizeLine ∧ Q .non (upd H2 a (.lst (ys ++ [v]))))
    (hbase : attributeBase o "append" X.env (eval o X.env) = eval o X.env := by rfl)
    (hfew : ((backTo cpos (starEach [e] X.env)).all (fun x => !x.1) && (backToKw cpos (keywordEach [] X.env)).all (fun x => x.1.isSome)
      && decide ([e].length + ([] : List Keyword).length + (if ([] : List Keyword).isEmpty then 0 else 1) < 30)) = true := by rfl)
    (hline : (apos.endLine == cpos.line) = true := by rfl) (hs : starEach [e] X.env = (false, eval e X.env) :: starEach [] X.env := by rfl) (hplain : (backTo cpos (starEach [] X.env)).any (·.1) = false := by rfl) :
    wE X (.Call (.Attribute o "append" apos) [e] [] cpos) σ H Q :=
  e_bm PySem.F.plainAttrs_list PySem.F.slot_list_append PySem.F.type_list_append (wE_mono (fun x H1 ⟨a, xs, ev, hH, q⟩ => by
    subst ev
    exact ⟨ty_lst hH, a_cons (wE_mono (fun v H2 ⟨ys, h2, hl, q⟩ => a_nil (m_append h2 hl q)) q) hs⟩) h) hbase hfew hline hs hplain
/-- xs.extend(e) -/
theorem m_ext (h : wE X o σ H fun x H1 => ∃ a xs, x = .ref a ∧ H1 a = some (.lst xs) ∧ wE X e σ H1 fun v H2 => ∃ b xs ys, v = .ref b ∧ H2 a = some (.lst xs) ∧ H2 b = some (.lst ys) ∧ xs.length + ys.length ≤ sizeLine ∧ Q .non (upd H2 a (.lst (xs ++ ys))))
    (hbase : attributeBase o "extend" X.env (eval o X.env) = eval o X.env := by rfl)
    (hfew : ((backTo cpos (starEach [e] X.env)).all (fun x => !x.1) && (backToKw cpos (keywordEach [] X.env)).all (fun x => x.1.isSome)
      && decide ([e].length + ([] : List Keyword).length + (if ([] : List Keyword).isEmpty then 0 else 1) < 30)) = true := by rfl)
    (hline : (apos.endLine == cpos.line) = true := by rfl) (hs : starEach [e] X.env = (false, eval e X.env) :: starEach [] X.env := by rfl) (hplain : (backTo cpos (starEach [] X.env)).any (·.1) = false := by rfl) :
    wE X (.Call (.Attribute o "extend" apos) [e] [] cpos) σ H Q :=
  e_bm PySem.F.plainAttrs_list PySem.F.slot_list_extend PySem.F.type_list_extend (wE_mono (fun x H1 ⟨a, xs, ev, hH, q⟩ => by
    subst ev
    exact ⟨ty_lst hH, a_cons (wE_mono (fun v H2 ⟨b, xs, ys, ev, h2, h3, hl, q⟩ => by subst ev; exact a_nil (m_extend h2 h3 hl q)) q) hs⟩) h) hbase hfew hline hs hplain
end
theorem sz5 {n : Nat} (h : n ≤ 1000000) : n ≤ sizeLine := Nat.le_trans h (by decide)
theorem sz5' {n : Nat} (h : n ≤ 1000000) : n < sizeLine := Nat.lt_of_le_of_lt h (by decide)
theorem monthDays_len (y m : Int) : (monthDays y m).length ≤ 31 := by
  have h := mlen_bd y m
  unfold monthDays
  rw [List.length_map, List.length_range]
  omega
theorem flatMap_len {α β : Type} {f : α → List β} {c : Nat} (h : ∀ a, (f a).length ≤ c) : ∀ l : List α, (l.flatMap f).length ≤ l.length * c
  | [] => by simp
  | a :: l => by
    rw [List.flatMap_cons, List.length_append, List.length_cons, Nat.succ_mul]
    have := flatMap_len h l
    have := h a
    omega
theorem yearDays_len (y : Int) : (yearDays y).length ≤ 372 := by
  have := flatMap_len (fun (i : Nat) => monthDays_len y (1 + (i : Int))) (List.range 12)
  rw [List.length_range] at this
  exact this
end DP
namespace DP
open PySem L2
section
variable {X : Cx} {P : Program} {w : World} {K : PySem.W.Frag} {mg : Str → Option Value} {base : Heap} {N : List Str} {sc : Scope} {k : Nat} {lv : Bool}
variable {σ : L2.St} {H : Hp} {pos p : Pos} {tg e e1 e2 : Expr} {body : List Stmt} {nx : L2.St → Hp → Prop} {rt : VK} {bk ct : L2.St → Hp → Prop}
theorem s_forR2 (C : Kx X P w K mg base N sc k lv) (B : Bn mg) (h : wE X e1 σ H fun v H1 => wE X e2 σ H1 fun u H2 => ∃ i j : Int, v = .int i ∧ u = .int j ∧ (-(2 ^ 62) ≤ i ∧ i < 2 ^ 62 ∧ -(2 ^ 62) ≤ j ∧ j < 2 ^ 62) ∧ ∃ Pv : Nat → L2.St → Hp → Prop, Pv 0 σ H2 ∧
      (∀ (n : Nat) σ' H', n < (j - i).toNat → Pv n σ' H' → wG X tg (.int (i + (n : Int))) σ' H' fun σ2 H2 => wSs X body (Pv (n + 1)) rt nx (Pv (n + 1)) σ2 H2) ∧ (∀ σ' H', Pv (j - i).toNat σ' H' → nx σ' H'))
    (hg : sc.names.lookup ("range" : Str) = some .globalImplicit := by rfl) (hs : starEach [e1, e2] X.env = [(false, eval e1 X.env), (false, eval e2 X.env)] := by rfl) (hs2 : starEach [e2] X.env = [(false, eval e2 X.env)] := by rfl)
    (hf : ∀ x, foldedSetIterable (.Call (.Name "range" p) [e1, e2] [] pos) X.env x = pure x := by intro _; rfl) {pos' : Pos} : wS X (.For tg (.Call (.Name "range" p) [e1, e2] [] pos) body [] pos') nx rt bk ct σ H :=
  s_forW C (i_R2 C B.n_range (wE_mono (fun v H1 q => wE_mono (fun u H2 ⟨i, j, e1, e2, hb, Pv, h0, hst, hd⟩ => ⟨i, j, e1, e2, hb, fun J wk => ⟨_, _, _, wk, Pv, h0, fun _ _ _ _ _ => True.intro, fun n v σ' H' H2 hn hP hy => by
    obtain ⟨rfl, rfl⟩ := hy
    exact hst n σ' _ hn hP, hd⟩⟩) q) h) hg hs hs2) hf
theorem s_forR1 (C : Kx X P w K mg base N sc k lv) (B : Bn mg) (h : wE X e σ H fun v H1 => ∃ j : Int, v = .int j ∧ (-(2 ^ 62) ≤ j ∧ j < 2 ^ 62) ∧ ∃ Pv : Nat → L2.St → Hp → Prop, Pv 0 σ H1 ∧
      (∀ (n : Nat) σ' H', n < j.toNat → Pv n σ' H' → wG X tg (.int (n : Int)) σ' H' fun σ2 H2 => wSs X body (Pv (n + 1)) rt nx (Pv (n + 1)) σ2 H2) ∧ (∀ σ' H', Pv j.toNat σ' H' → nx σ' H'))
    (hg : sc.names.lookup ("range" : Str) = some .globalImplicit := by rfl) (hs : starEach [e] X.env = [(false, eval e X.env)] := by rfl)
    (hf : ∀ x, foldedSetIterable (.Call (.Name "range" p) [e] [] pos) X.env x = pure x := by intro _; rfl) {pos' : Pos} : wS X (.For tg (.Call (.Name "range" p) [e] [] pos) body [] pos') nx rt bk ct σ H :=
  s_forW C (i_R1 C B.n_range (wE_mono (fun v H1 ⟨j, e1, hb, Pv, h0, hst, hd⟩ => ⟨j, e1, hb, fun J wk => ⟨_, _, _, wk, Pv, h0, fun _ _ _ _ _ => True.intro, fun n v σ' H' H2 hn hP hy => by
    obtain ⟨rfl, rfl⟩ := hy
    dsimp only
    rw [Int.zero_add]
    exact hst n σ' _ hn hP, hd⟩⟩) h) hg hs) hf
theorem s_forL (C : Kx X P w K mg base N sc k lv) (h : wE X e σ H fun v H1 => ∃ a xs, v = .ref a ∧ ∃ Pv : Nat → L2.St → Hp → Prop, Pv 0 σ H1 ∧ (∀ i σ' H', Pv i σ' H' → SqL K H' a xs) ∧
      (∀ (n : Nat) u σ' H', xs[n]? = some u → Pv n σ' H' → wG X tg u σ' H' fun σ2 H2 => wSs X body (Pv (n + 1)) rt nx (Pv (n + 1)) σ2 H2) ∧ (∀ σ' H', Pv xs.length σ' H' → nx σ' H'))
    (hf : ∀ x, foldedSetIterable e X.env x = pure x := by intro _; rfl) {pos' : Pos} : wS X (.For tg e body [] pos') nx rt bk ct σ H :=
  s_forX C (i_L C (wE_mono (fun v H1 ⟨a, xs, e1, Pv, h0, hl, hst, hd⟩ => ⟨a, xs, e1, hl _ _ _ h0, fun J wk => ⟨xs, _, wk, Pv, h0, hl, hst, hd⟩⟩) h)) hf
theorem s_forT (C : Kx X P w K mg base N sc k lv) (h : wE X e σ H fun v H1 => ∃ a xs, v = .ref a ∧ ∃ Pv : Nat → L2.St → Hp → Prop, Pv 0 σ H1 ∧ (∀ i σ' H', Pv i σ' H' → SqT K H' a xs) ∧
      (∀ (n : Nat) u σ' H', xs[n]? = some u → Pv n σ' H' → wG X tg u σ' H' fun σ2 H2 => wSs X body (Pv (n + 1)) rt nx (Pv (n + 1)) σ2 H2) ∧ (∀ σ' H', Pv xs.length σ' H' → nx σ' H'))
    (hf : ∀ x, foldedSetIterable e X.env x = pure x := by intro _; rfl) {pos' : Pos} : wS X (.For tg e body [] pos') nx rt bk ct σ H :=
  s_forX C (i_T C (wE_mono (fun v H1 ⟨a, xs, e1, Pv, h0, hl, hst, hd⟩ => ⟨a, xs, e1, hl _ _ _ h0, fun J wk => ⟨xs, _, wk, Pv, h0, hl, hst, hd⟩⟩) h)) hf
theorem PIor {R : It → Hp → Prop} (h : wI X tg e σ H R ∨ wI X tg e σ H R) : wI X tg e σ H R := h.elim id id
end
end DP
set_option Elab.async false
set_option linter.all false
set_option maxRecDepth 100000
set_option maxHeartbeats 1000000
namespace DP
open PySem L2
section
variable {X : Cx} {P : Program} {w : World} {K : PySem.W.Frag} {mg : Str → Option Value} {base : Heap} {N : List Str} {sc : Scope} {k : Nat} {lv : Bool}
variable {σ : L2.St} {H : Hp} {Q : VK} {o e f i value : Expr} {apos cpos pos pos' : Pos} {a : Addr} {kvs : List (Key × V)} {nx : L2.St → Hp → Prop} {rt : VK} {bk ct : L2.St → Hp → Prop}
/-! ### dicts with text keys -/
theorem o_dIn (C : Kx X P w K mg base N sc k lv) {t : Str} (hd : Rd H a (.dK kvs)) (h : Q (.bl (valV kvs (Sum.inr t : Key)).isSome) H) : wOp X (compareOp .In) (.str t) (.ref a) H Q :=
  ⟨fun pins s σ v u I rx ry => by
    cases (show u = Value.ref a from ry)
    exact d_in (y := .str t) (o := valV kvs (Sum.inr t : Key)) C.u1 I (.inl ⟨kvs, Sum.inr t, hd, rfl, rfl⟩) rx fun s' I' => ⟨.bl _, H, I', rfl, h⟩⟩
theorem o_dNotIn (C : Kx X P w K mg base N sc k lv) {t : Str} (hd : Rd H a (.dK kvs)) (h : Q (.bl (!(valV kvs (Sum.inr t : Key)).isSome)) H) : wOp X (compareOp .NotIn) (.str t) (.ref a) H Q :=
  ⟨fun pins s σ v u I rx ry => by
    cases (show u = Value.ref a from ry)
    exact d_notIn (y := .str t) (o := valV kvs (Sum.inr t : Key)) C.u1 I (.inl ⟨kvs, Sum.inr t, hd, rfl, rfl⟩) rx fun s' I' => ⟨.bl _, H, I', rfl, h⟩⟩
theorem e_dnew (h : ∀ p, H p = none → Q (.ref p) (upd H p (.dK []))) : wE X (.Dict [] [] pos) σ H Q := goE pe_dnewK h
theorem e_dget (C : Kx X P w K mg base N sc k lv) (h : wE X o σ H fun x H1 => wE X i σ H1 fun y H2 => ∃ a kvs t v, x = .ref a ∧ y = .str t ∧ Rd H2 a (.dK kvs) ∧ valV kvs (Sum.inr t : Key) = some v ∧ Q v H2) (hs : NoSl i := by exact fun _ _ => rfl) : wE X (.Subscript o i pos) σ H Q :=
  goE (pe_dget C.u1 peW peW hs) (wE_mono (fun x H1 q => wE_mono (fun y H2 ⟨a, kvs, t, v, e1, e2, hd, hv, q⟩ => ⟨a, v, e1, .inl ⟨kvs, Sum.inr t, hd, e2, hv.symm⟩, q⟩) q) h)
theorem s_dput (C : Kx X P w K mg base N sc k lv) (h : wE X value σ H fun v H1 => wE X o σ H1 fun x H2 => wE X i σ H2 fun y H3 => ∃ a kvs t, x = .ref a ∧ y = .str t ∧ H3 a = some (.dK kvs) ∧ kvs.length < sizeLine ∧ nx σ (upd H3 a (.dK (putK kvs (Sum.inr t : Key) v))))
    (hs : swapsWith value (some (.Subscript o i pos')) pos.line X.env = pure false := by rfl) : wS X (.Assign [.Subscript o i pos'] value pos) nx rt bk ct σ H :=
  goS (ps_dput C.u1 peW peW peW hs) (wE_mono (fun v H1 q => wE_mono (fun x H2 q => wE_mono (fun y H3 ⟨a, kvs, t, e1, e2, hd, hl, q⟩ => ⟨a, _, e1, .inl ⟨kvs, Sum.inr t, hd, e2, hl, rfl⟩, q⟩) q) q) h)
theorem e_dget2 (C : Kx X P w K mg base N sc k lv) (h : wE X o σ H fun x H1 => ∃ a kvs, x = .ref a ∧ Rd H1 a (.dK kvs) ∧ wE X e σ H1 fun y H2 => wE X f σ H2 fun z H3 => ∃ kvs t, y = .str t ∧ Rd H3 a (.dK kvs) ∧ Q ((valV kvs (Sum.inr t : Key)).getD z) H3)
    (m1 : attributeBase o "get" X.env (eval o X.env) = eval o X.env := by rfl) (m2 : ((backTo cpos (starEach [e, f] X.env)).all (fun x => !x.1) && (backToKw cpos (keywordEach [] X.env)).all (fun x => x.1.isSome)
    && decide (([e, f] : List Expr).length + ([] : List Keyword).length + (if ([] : List Keyword).isEmpty then 0 else 1) < 30)) = true := by rfl) (m3 : (apos.endLine == cpos.line) = true := by rfl) (m4 : backTo cpos (starEach [e, f] X.env) = [(false, eval e X.env), (false, eval f X.env)] := by rfl) :
    wE X (.Call (.Attribute o "get" apos) [e, f] [] cpos) σ H Q :=
  goE (pe_dget2 C.u1 peW peW peW ⟨m1, m2, m3, m4⟩) (wE_mono (fun x H1 ⟨a, kvs, e1, hd, q⟩ => ⟨a, e1, .inl ⟨kvs, hd⟩, wE_mono (fun y H2 q => wE_mono (fun z H3 ⟨kvs, t, e2, hd, q⟩ => ⟨_, .inl ⟨kvs, Sum.inr t, hd, e2, rfl⟩, q⟩) q) q⟩) h)
/-! ### texts -/
/-- a written text's join -/
theorem e_joinC (C : Kx X P w K mg base N sc k lv) {z : Str} {j : Nat} {p0 : Pos} (h : wE X e σ H fun y H2 => ∃ p, ∃ ys : List Str, y = .ref p ∧ SqL K H2 p (ys.map V.str) ∧ (ys.map (·.length)).sum + ys.length * z.length ≤ 16777216 ∧ Q (.str (Txt.join z ys)) H2)
    (hs : starEach [e] X.env = [(false, eval e X.env)] := by rfl) (hbase : attributeBase (.Constant (.str z) j p0) "join" X.env (eval (.Constant (.str z) j p0) X.env) = eval (.Constant (.str z) j p0) X.env := by rfl) (hline : (apos.endLine == pos.line) = true := by rfl) :
    wE X (.Call (.Attribute (.Constant (.str z) j p0) "join" apos) [e] [] pos) σ H Q := by
  have e3 := C.eK; subst e3
  exact goE (pe_join peW peW hs hbase hline) (e_str ⟨⟨z, rfl⟩, wE_mono (fun y H2 ⟨p, ys, e2, hq, hl, q⟩ => ⟨z, p, ys, rfl, by rw [e2], .inl hq, hl, q⟩) h⟩)
theorem e_isalpha (h : wE X o σ H fun x H1 => ∃ a, x = .str a ∧ Q (.bl (Txt.isalpha a)) H1) (hbase : attributeBase o "isalpha" X.env (eval o X.env) = eval o X.env := by rfl) (hline : (apos.endLine == pos.line) = true := by rfl) :
    wE X (.Call (.Attribute o "isalpha" apos) [] [] pos) σ H Q :=
  goE (pe_m0 PySem.F.slot_str_isalpha PySem.F.type_str_isalpha mt_isalpha peW hbase hline) (wE_mono (fun x H1 ⟨a, e1, q⟩ => ⟨⟨a, e1⟩, a, e1, rfl, True.intro, q⟩) h)
theorem slT (C : Kx X P w K mg base N sc k lv) {lo hi : Option Int} {xs : List V} (hq : SqT K H a xs) (h1 : HT.sIx xs.length 0 lo = 0 ∧ HT.sIx xs.length xs.length hi = xs.length → Q (.ref a) H) (h2 : ¬ (HT.sIx xs.length 0 lo = 0 ∧ HT.sIx xs.length xs.length hi = xs.length) → ∀ p, H p = none → Q (.ref p) (upd H p (.tup (cutV xs lo hi)))) : wSl X (.ref a) lo hi H Q := by
  have e3 := C.eK; subst e3
  exact goSl sl_tupA ⟨a, xs, rfl, hq, h1, h2⟩
/-- a slice of a tuple, by what it holds -/
theorem slTv (C : Kx X P w K mg base N sc k lv) {lo hi : Option Int} {xs : List V} (hq : SqT K H a xs) (h : ∀ p H', Ex H H' → SqT K H' p (cutV xs lo hi) → Q (.ref p) H') : wSl X (.ref a) lo hi H Q := by
  refine slT C hq (fun hw => h a H (Ex.refl _) ?_) (fun _ p np => h p _ (Ex.new np) (SqT.of upd_same))
  unfold cutV
  rw [hw.1, hw.2, List.drop_zero, Nat.sub_zero, List.take_length]
  exact hq
end
/-! ### comprehensions and loops over pairs -/
section
variable {X : Cx} {P : Program} {w : World} {K : PySem.W.Frag} {mg : Str → Option Value} {base : Heap} {N : List Str} {sc : Scope} {k : Nat} {lv : Bool}
variable {σ : L2.St} {H : Hp} {pos p : Pos} {tg elt iter c e e1 e2 : Expr} {scope : Scope} {Q : VK} {α : Type}
/-- a source that hands out pairs -/
def SrcQ (K : PySem.W.Frag) (B : List (V × V) → Hp → Prop) (J : It) (H1 : Hp) : Prop := ∃ (vals : List (V × V)) (Gd : Hp → Prop) (Y : Nat → Hp → V → Hp → Prop), Walk J vals.length Gd Y ∧ (∀ H', Ex H1 H' → Gd H') ∧
  (∀ m v H' H2, m < vals.length → Ex H1 H' → Y m H' v H2 → Ex H' H2 ∧ ∃ a v1 v2, v = .ref a ∧ SqT K H2 a [v1, v2] ∧ vals[m]? = some (v1, v2)) ∧ B vals H1
theorem y_Z {B : List (V × V) → Hp → Prop} {elts : List Expr} {kk : Nat} {tpos : Pos} (C : Kx X P w K mg base N sc k lv) (Bb : Bn mg) (h : wE X e1 σ H fun v H1 => wE X e2 σ H1 fun u H2 => ∃ a b xs ys, v = .ref a ∧ u = .ref b ∧ ((SqL K H2 a xs ∧ SqL K H2 b ys) ∨ (SqT K H2 a xs ∧ SqT K H2 b ys)) ∧ B (xs.zip ys) H2)
    (hg : sc.names.lookup ("zip" : Str) = some .globalImplicit := by rfl) (hs : starEach [e1, e2] X.env = (false, eval e1 X.env) :: starEach [e2] X.env := by rfl) (hs2 : starEach [e2] X.env = (false, eval e2 X.env) :: starEach [] X.env := by rfl) (hpl : (backTo pos (starEach [e2] X.env)).any (·.1) = false := by rfl) :
    wI X (.Tuple elts kk tpos) (.Call (.Name "zip" p) [e1, e2] [] pos) σ H (SrcQ K B) := by
  have core : ∀ {xs ys : List V} {Gd : Hp → Prop} {J : It} {H2 : Hp}, Walk J (min xs.length ys.length) Gd (YPair (fun i => xs[i]?) (fun i => ys[i]?)) → (∀ H', Ex H2 H' → Gd H') → B (xs.zip ys) H2 → SrcQ K B J H2 := by
    intro xs ys Gd J H2 wk hG q
    refine ⟨xs.zip ys, Gd, _, by rw [List.length_zip]; exact wk, hG, fun m v H' H2 hm hx hy => ?_, q⟩
    obtain ⟨T, x, y, e1, e2, e3, f1, f2⟩ := hy
    subst e3
    refine ⟨Ex.new e2, T, x, y, e1, SqT.of upd_same, ?_⟩
    rw [List.getElem?_zip_eq_some]
    exact ⟨f1, f2⟩
  refine i_Z C Bb.n_zip (wE_mono (fun v H1 q => wE_mono (fun u H2 ⟨a, b, xs, ys, e1, e2, hq, q⟩ => ⟨a, b, xs, ys, e1, e2, ?_⟩) q) h) hg hs hs2 hpl
  rcases hq with ⟨q1, q2⟩ | ⟨q1, q2⟩
  · exact .inl ⟨q1, q2, fun J wk => core wk (fun H' x => ⟨sql_ex x q1, sql_ex x q2⟩) q⟩
  · exact .inr ⟨q1, q2, fun J wk => core wk (fun H' x => ⟨sqt_ex x q1, sqt_ex x q2⟩) q⟩
theorem y_E {B : List (V × V) → Hp → Prop} {elts : List Expr} {kk : Nat} {tpos : Pos} (C : Kx X P w K mg base N sc k lv) (Bb : Bn mg) (h : wE X e σ H fun v H1 => ∃ a xs, v = .ref a ∧ SqL K H1 a xs ∧ B (((List.range xs.length).map fun (n : Nat) => V.int (n : Int)).zip xs) H1)
    (hg : sc.names.lookup ("enumerate" : Str) = some .globalImplicit := by rfl) (hs : starEach [e] X.env = [(false, eval e X.env)] := by rfl) : wI X (.Tuple elts kk tpos) (.Call (.Name "enumerate" p) [e] [] pos) σ H (SrcQ K B) := by
  refine i_En C Bb.n_enumerate (wE_mono (fun v H1 ⟨a, xs, e1, hq, q⟩ => ⟨a, xs, e1, hq, fun J wk => ⟨((List.range xs.length).map fun (n : Nat) => V.int (n : Int)).zip xs, (fun H => SqL K H a xs), YPair (fun i => some (.int (i : Nat))) (fun i => xs[i]?), ?_, fun H' x => sql_ex x hq, fun m v H' H2 hm hx hy => ?_, q⟩⟩) h) hg hs
  · rw [List.length_zip, List.length_map, List.length_range, Nat.min_self]
    exact wk
  · obtain ⟨T, x, y, e1, e2, e3, f1, f2⟩ := hy
    subst e3
    refine ⟨Ex.new e2, T, x, y, e1, SqT.of upd_same, ?_⟩
    rw [List.length_zip, List.length_map, List.length_range, Nat.min_self] at hm
    rw [List.getElem?_zip_eq_some, List.getElem?_map, List.getElem?_range hm]
    exact ⟨f1, f2⟩
/-- a list of pairs -/
theorem y_L {B : List (V × V) → Hp → Prop} (C : Kx X P w K mg base N sc k lv) (h : wE X e σ H fun v H1 => ∃ a xs vals, v = .ref a ∧ SqL K H1 a xs ∧ Paired (fun (u : V × V) x => ∃ a, x = .ref a ∧ SqT K H1 a [u.1, u.2]) vals xs ∧ B vals H1) : wI X tg e σ H (SrcQ K B) :=
  i_L C (wE_mono (fun v H1 ⟨a, xs, vals, e1, hq, hp, q⟩ => ⟨a, xs, e1, hq, fun J wk => ⟨vals, _, _, by rw [Paired.length hp]; exact wk, fun H' x => sql_ex x hq, fun m v H' H2 hm hx hy => by
    obtain ⟨rfl, hu⟩ := hy
    obtain ⟨z, h1, a, e2, h2⟩ := paired_ix hp hu
    exact ⟨Ex.refl _, a, z.1, z.2, e2, sqt_ex hx h2, h1⟩, q⟩⟩) h)
def LcB2 (P : Program) (w : World) (K : PySem.W.Frag) (mg : Str → Option Value) (base : Heap) (N : List Str) (sc : Scope) (k : Nat) (elt : Expr) (σf : V → V → L2.St) (l : List α) (G : α → V → Hp → Prop) (Q : VK) (vals : List (V × V)) (H1 : Hp) : Prop :=
  ∃ R : α → V × V → Prop, Paired R l vals ∧ (∀ z v1 v2, z ∈ l → R z (v1, v2) → ∀ H', Ex H1 H' → ∀ X', Kx X' P w K mg base N sc k false → wE X' elt (σf v1 v2) H' fun y H5 => Ex H' H5 ∧ G z y H5) ∧
    (∀ D ys H', H1 D = none → Ex H1 H' → H' D = some (.lst ys) → Paired (fun z y => G z y H') l ys → Q (.ref D) H')
def LcFB2 (P : Program) (w : World) (K : PySem.W.Frag) (mg : Str → Option Value) (base : Heap) (N : List Str) (sc : Scope) (k : Nat) (elt c : Expr) (f : α → Bool) (σf : V → V → L2.St) (l : List α) (G : α → V → Hp → Prop) (Q : VK) (vals : List (V × V)) (H1 : Hp) : Prop :=
  ∃ R : α → V × V → Prop, Paired R l vals ∧ (∀ z v1 v2, z ∈ l → R z (v1, v2) → ∀ H', Ex H1 H' → ∀ X', Kx X' P w K mg base N sc k false → wT X' c (σf v1 v2) H' fun b H4 => Ex H' H4 ∧ b = f z ∧ (f z = true → ∀ X', Kx X' P w K mg base N sc k false → wE X' elt (σf v1 v2) H4 fun y H5 => Ex H4 H5 ∧ G z y H5)) ∧
    (∀ D ys H', H1 D = none → Ex H1 H' → H' D = some (.lst ys) → Paired (fun z y => G z y H') (l.filter f) ys → Q (.ref D) H')
theorem paired_ix' {β : Type} {R : α → β → Prop} {l : List α} {xs : List β} (h : Paired R l xs) {m : Nat} {u : β} (hu : xs[m]? = some u) : ∃ z, l[m]? = some z ∧ R z u := by
  induction h generalizing m with
  | nil => simp at hu
  | cons r t ih =>
    cases m with
    | zero => simp at hu; subst hu; exact ⟨_, rfl, r⟩
    | succ m =>
      obtain ⟨z, h1, h2⟩ := ih (by simpa using hu)
      exact ⟨z, by simpa using h1, h2⟩
variable {i j : Nat} {x y : Str}
theorem e_lc2G {p1 p2 : Pos} {kk : Nat} (C : Kx X P w K mg base N sc k lv) (l : List α) (G : α → V → Hp → Prop) (st : ∀ z v H H', Tk H H' → G z v H → G z v H') (hl : l.length ≤ 1000000)
    (h : wI X (.Tuple [.Name x p1, .Name y p2] kk p) iter σ H (SrcQ K (LcB2 P w K mg base N (relS scope sc) k elt (fun v1 v2 => (σ.set i (some v1)).set j (some v2)) l G Q)))
    (hN : N[i]? = some x := by rfl) (hN2 : N[j]? = some y := by rfl) (hij : i ≠ j := by decide) (hx : Sto (relS scope sc) false x := by first | exact Or.inl rfl | exact Or.inr ⟨rfl, rfl⟩) (hy : Sto (relS scope sc) false y := by first | exact Or.inl rfl | exact Or.inr ⟨rfl, rfl⟩) (ok : blkC N sc scope [(x, i), (y, j)] = true := by decide +kernel) (hs : ∀ x, foldedSetIterable iter X.env x = pure x := by intro _; rfl) :
    wE X (.ListComp elt [⟨.Tuple [.Name x p1, .Name y p2] kk p, iter, [], 0⟩] scope pos) σ H Q := by
  refine e_lc2 (i := i) (j := j) C (wI_mono (fun J H1 q => ?_) h) hN hN2 hij hx hy ok hs
  obtain ⟨vals, Gd, Y, wk, hG, hY, R, hp, hb, hd⟩ := q
  have hlen := Paired.length hp
  refine ⟨vals.length, Gd, Y, wk, by omega, hG, fun m y H => ∃ z, l[m]? = some z ∧ G z y H, fun m v H H' e ⟨z, h1, h2⟩ => ⟨z, h1, st _ _ _ _ e h2⟩, fun m v H' H2 hm hx hy => ?_, fun D ys H' nD hx hD hp' => hd D ys H' nD hx hD ?_⟩
  · obtain ⟨ex, a, v1, v2, e1, hq, hu⟩ := hY m v H' H2 hm hx hy
    obtain ⟨z, h1, h2⟩ := paired_ix' hp hu
    exact ⟨a, v1, v2, e1, hq, ex, fun X' C' => wE_mono (fun y H5 q => ⟨q.1, z, h1, q.2⟩) (hb z v1 v2 (List.mem_of_getElem? h1) h2 _ (Ex.trans hx ex) X' C')⟩
  · rw [← hlen] at hp'
    exact paired_atT hp'
theorem e_lcF2G {p1 p2 : Pos} {kk : Nat} (C : Kx X P w K mg base N sc k lv) (f : α → Bool) (l : List α) (G : α → V → Hp → Prop) (st : ∀ z v H H', Tk H H' → G z v H → G z v H') (hl : l.length ≤ 1000000)
    (h : wI X (.Tuple [.Name x p1, .Name y p2] kk p) iter σ H (SrcQ K (LcFB2 P w K mg base N (relS scope sc) k elt c f (fun v1 v2 => (σ.set i (some v1)).set j (some v2)) l G Q)))
    (hN : N[i]? = some x := by rfl) (hN2 : N[j]? = some y := by rfl) (hij : i ≠ j := by decide) (hx : Sto (relS scope sc) false x := by first | exact Or.inl rfl | exact Or.inr ⟨rfl, rfl⟩) (hy : Sto (relS scope sc) false y := by first | exact Or.inl rfl | exact Or.inr ⟨rfl, rfl⟩) (ok : blkC N sc scope [(x, i), (y, j)] = true := by decide +kernel) (hs : ∀ x, foldedSetIterable iter X.env x = pure x := by intro _; rfl) :
    wE X (.ListComp elt [⟨.Tuple [.Name x p1, .Name y p2] kk p, iter, [c], 0⟩] scope pos) σ H Q := by
  refine e_lcf2 (i := i) (j := j) C (fAt l f) (wI_mono (fun J H1 q => ?_) h) hN hN2 hij hx hy ok hs
  obtain ⟨vals, Gd, Y, wk, hG, hY, R, hp, hb, hd⟩ := q
  have hlen := Paired.length hp
  refine ⟨vals.length, Gd, Y, wk, by omega, hG, fun m y H => ∃ z, l[m]? = some z ∧ G z y H, fun m v H H' e ⟨z, h1, h2⟩ => ⟨z, h1, st _ _ _ _ e h2⟩, fun m v H' H2 hm hx hy => ?_, fun D ys H' nD hx hD hp' => hd D ys H' nD hx hD ?_⟩
  · obtain ⟨ex, a, v1, v2, e1, hq, hu⟩ := hY m v H' H2 hm hx hy
    obtain ⟨z, h1, h2⟩ := paired_ix' hp hu
    refine ⟨a, v1, v2, e1, hq, fun X' C' => wT_mono (fun b H4 q => ⟨Ex.trans ex q.1, ?_, fun hb X'' C'' => wE_mono (fun y H5 q => ⟨q.1, z, h1, q.2⟩) (q.2.2 ?_ X'' C'')⟩) (hb z v1 v2 (List.mem_of_getElem? h1) h2 _ (Ex.trans hx ex) X' C')⟩
    · rw [fAt_some h1]; exact q.2.1
    · rw [← q.2.1]; exact hb
  · rw [← hlen] at hp'
    exact paired_atF hp'
/-- for x, y in .. -/
theorem s_for2 {iter : Expr} {body : List Stmt} {nx : L2.St → Hp → Prop} {rt : VK} {bk ct : L2.St → Hp → Prop} {es : List Expr} {kk : Nat} {tpos : Pos} (C : Kx X P w K mg base N sc k lv)
    (h : wI X (.Tuple es kk tpos) iter σ H fun J H1 => ∃ (n : Nat) (Gd : Hp → Prop) (Y : Nat → Hp → V → Hp → Prop), Walk J n Gd Y ∧ ∃ Pv : Nat → L2.St → Hp → Prop, Pv 0 σ H1 ∧ (∀ i σ' H', Pv i σ' H' → Gd H') ∧
      (∀ i v σ' H' H2, i < n → Pv i σ' H' → Y i H' v H2 → ∃ a v1 v2, v = .ref a ∧ SqT K H2 a [v1, v2] ∧ wGs X es [v1, v2] σ' H2 fun σ2 H3 => wSs X body (Pv (i + 1)) rt nx (Pv (i + 1)) σ2 H3) ∧ (∀ σ' H', Pv n σ' H' → nx σ' H'))
    (hn : (assignEach es X.env).length = 2 := by rfl) (hst : (assignEach es X.env).findIdx? (·.1) = none := by rfl) (hs : ∀ x, foldedSetIterable iter X.env x = pure x := by intro _; rfl) : wS X (.For (.Tuple es kk tpos) iter body [] pos) nx rt bk ct σ H :=
  s_forW C (wI_mono (fun J H1 ⟨n, Gd, Y, wk, Pv, h0, hG, ht, hd⟩ => ⟨n, Gd, Y, wk, Pv, h0, fun i σ' H' _ q => hG i σ' H' q, fun i v σ' H' H2 hi hP hy => by
    obtain ⟨a, v1, v2, e1, hq, q⟩ := ht i v σ' H' H2 hi hP hy
    exact g_tup C e1 hq rfl q hn hst, hd⟩) h) hs
end
end DP
namespace DP
open PySem L2
theorem cut1 (xs : List V) : cutV xs (some 1) none = xs.drop 1 := by
  unfold cutV
  rw [show HT.sIx xs.length 0 (some 1) = min 1 xs.length from HT.sIx_nat xs.length 0 1, HT.sIx_none]
  cases xs with
  | nil => rfl
  | cons x r =>
    rw [show min 1 (x :: r).length = 1 by
      rw [List.length_cons]
      omega]
    show (List.take ((x :: r).length - 1) r) = r
    rw [List.length_cons, Nat.add_sub_cancel]
    exact List.take_length
theorem zip_strs (ps qs : List Str) : (ps.map V.str).zip (qs.map V.str) = (ps.zip qs).map fun z => (V.str z.1, V.str z.2) := by
  rw [List.zip_map]
  rfl
end DP
namespace DP
open PySem L2
section
variable {X : Cx} {P : Program} {w : World} {K : PySem.W.Frag} {mg : Str → Option Value} {base : Heap} {N : List Str} {sc : Scope} {k : Nat} {lv : Bool}
variable {σ : L2.St} {H : Hp} {o i : Expr} {pos : Pos}
theorem set_dict (hu : X.A.units + 1 < cLine) : PSet X (fun o i v H Q => ∃ a kvs t, o = .ref a ∧ i = .str t ∧ H a = some (.dK kvs) ∧ kvs.length < sizeLine ∧ Q (upd H a (.dK (putK kvs (Sum.inr t : Key) v)))) := by
  intro pins s σ H o i v ov iv u Q I ro ri rv h
  obtain ⟨a, kvs, t, rfl, rfl, hd, hl, q⟩ := h
  cases (show ov = Value.ref a from ro)
  exact d_setItem hu I (.inl ⟨kvs, Sum.inr t, hd, rfl, hl, rfl⟩) ri rv fun s' I' => ⟨_, I', q⟩
theorem g_dput (C : Kx X P w K mg base N sc k lv) {Q : L2.St → Hp → Prop} {v : V} (h : wE X o σ H fun ov H1 => wE X i σ H1 fun iv H2 => ∃ a kvs t, ov = .ref a ∧ iv = .str t ∧ H2 a = some (.dK kvs) ∧ kvs.length < sizeLine ∧ Q σ (upd H2 a (.dK (putK kvs (Sum.inr t : Key) v))))
    (ha : ∀ v, assign (.Subscript o i pos) X.env v = (do
      let ov ← holding [v] (eval o X.env)
      let iv ← holding [v, ov] (eval i X.env)
      standAt pos
      holding [v, ov, iv] (setItem ov iv v)
      release [v, ov, iv] []) := by intro _; rfl) : wG X (.Subscript o i pos) v σ H Q := goG (pg_sub peW peW (set_dict C.u1) ha) h
end
end DP
set_option Elab.async false
set_option linter.all false
set_option maxRecDepth 100000
set_option maxHeartbeats 1000000
namespace DP
open PySem L2
/-! ### patterns and texts, in plain words -/
def isIn (p : Str) (l : List Str) : Bool := inV (.str p) (l.map V.str)
theorem isIn_iff {p : Str} {l : List Str} : isIn p l = true ↔ p ∈ l := by
  unfold isIn inV
  rw [List.any_map, List.any_eq_true]
  constructor
  · rintro ⟨q, h1, h2⟩
    have : q = p := by simpa [eqV] using h2
    rw [← this]; exact h1
  · intro h
    exact ⟨p, h, by simp [eqV]⟩
theorem isIn_false {p : Str} {l : List Str} : isIn p l = false ↔ ¬ p ∈ l := by rw [← isIn_iff]; simp
def numS (n : Int) : Str := Str.ofString (toString n)
def padS (n k : Int) : Str := Txt.mul "0" (k - ((numS n).length : Int)) ++ numS n
def monNames : List Str := ["jan", "feb", "mar", "apr", "may", "jun", "jul", "aug", "sep", "oct", "nov", "dec"]
def monName (m : Int) : Str := monNames.getD (m - 1).toNat ""
def fields : List Str := ["D", "DD", "M", "MM", "MON", "YY", "YYYY", "J", "JJJ", "WD"]
def isField (p : Str) : Bool := isIn p fields
def litText : Str := " -/.,:"
def isLit (p : Str) : Bool := decide (1 ≤ p.length) && (decide (p.length ≤ 3) && p.cps.toList.all fun c => decide (c ∈ litText.cps.toList))
def isPat (ps : List Str) : Bool := decide (1 ≤ ps.length) && (decide (ps.length ≤ 7) && (ps.all (fun p => isField p || isLit p) && !((ps.zip (ps.drop 1)).any fun q => !isField q.1 && !isField q.2)))
def ival (p : Str) (d : Dt) : Int := if isIn p ["D", "DD"] = true then d.2.2 else if isIn p ["M", "MM"] = true then d.2.1 else if isIn p ["J", "JJJ"] = true then piy d else if p = "YYYY" then d.1 else d.1 % 100
def sval (p : Str) (d : Dt) : Str := if p = "MON" then monName d.2.1 else wdName d
def fval (p : Str) (d : Dt) : V := if isIn p ["MON", "WD"] = true then .str (sval p d) else .int (ival p d)
def pc (p : Str) (d : Dt) : Str := if isField p = true then (if isIn p ["MON", "WD"] = true then sval p d else padS (ival p d) (if isIn p ["D", "M", "J"] = true then 1 else (p.length : Int))) else p
def wr (ps : List Str) (d : Dt) : Str := Txt.join "" (ps.map fun p => pc p d)
def okD (d : Dt) : Prop := (0 ≤ d.1 ∧ d.1 ≤ 9999) ∧ (1 ≤ d.2.1 ∧ d.2.1 ≤ 12) ∧ (0 ≤ d.2.2 ∧ d.2.2 ≤ 31)
theorem okD_of {d : Dt} (h : isDt d = true) : okD d := by
  have hb := mlen_bd d.1 d.2.1
  simp [isDt, isCnt] at h
  unfold okD
  omega
theorem okD_m {d : Dt} (h : okD d) : 0 ≤ d.2.1 ∧ d.2.1 ≤ 100 := by unfold okD at h; omega
theorem sum_bd {l : List Nat} {f : Nat → Int} {c : Int} (h : ∀ a, 0 ≤ f a ∧ f a ≤ c) : 0 ≤ (l.map f).sum ∧ (l.map f).sum ≤ l.length * c := by
  induction l with
  | nil => simp
  | cons a l ih =>
    have := h a
    rw [List.map_cons, List.sum_cons, List.length_cons]
    have e : ((l.length + 1 : Nat) : Int) * c = l.length * c + c := by rw [Int.natCast_add, Int.add_mul]; simp
    rw [e]
    omega
theorem piy_bd {d : Dt} (h : okD d) : 0 ≤ piy d ∧ piy d ≤ 1000 := by
  have := sum_bd (l := List.range (d.2.1 - 1).toNat) (f := fun (i : Nat) => mlen d.1 (1 + (i : Int))) (c := 31) (fun a => by have := mlen_bd d.1 (1 + (a : Int)); omega)
  unfold okD at h
  unfold piy
  rw [List.length_range] at this
  have e : (((d.2.1 - 1).toNat : Nat) : Int) ≤ 11 := by omega
  omega
theorem ival_bd {p : Str} {d : Dt} (h : okD d) : 0 ≤ ival p d ∧ ival p d ≤ 9999 := by
  have := piy_bd h
  unfold okD at h
  unfold ival
  split
  · omega
  · split
    · omega
    · split
      · omega
      · split <;> omega
theorem str_len_app (a b : Str) : (a ++ b).length = a.length + b.length := by
  show (a.cps ++ b.cps).size = _
  rw [Array.size_append]
  rfl
theorem app_list (a b : Str) : (a ++ b).cps.toList = a.cps.toList ++ b.cps.toList := by
  show (a.cps ++ b.cps).toList = _
  rw [Array.toList_append]
theorem str_ext {a b : Str} (h : a.cps.toList = b.cps.toList) : a = b := by
  cases a; cases b
  simp at h
  rw [h]
theorem numS_len {n : Int} (h0 : 0 ≤ n) (h1 : n ≤ 9999) : 1 ≤ (numS n).length ∧ (numS n).length ≤ 4 := by
  refine ⟨?_, PyProof.Rows.toString_length_le h0 (by decide) (by omega)⟩
  have e : n = ((n.toNat : Nat) : Int) := by omega
  have h : (numS n).cps.toList = (Nat.toDigits 10 n.toNat).map Char.toNat := by
    unfold numS
    rw [e]
    exact PySem.W.KIN.signs_num n.toNat
  show 1 ≤ (numS n).cps.size
  rw [← Array.length_toList, h, List.length_map]
  exact Nat.length_toDigits_pos
theorem mul0_list (n : Int) : (Txt.mul "0" n).cps.toList = List.replicate n.toNat 48 := by
  unfold Txt.mul
  split
  · rename_i h
    rw [show n.toNat = 0 by omega]
    rfl
  · split
    · rename_i h1 h2
      have : n = 1 := by
        have z : (Str.ofString "0").length = 1 := by decide +kernel
        rw [Bool.or_eq_true, beq_iff_eq, beq_iff_eq, z] at h2
        omega
      rw [this]
      rfl
    · have : ∀ (k : Nat) (acc : Array Nat), (List.foldl (fun x1 x2 => x1 ++ x2) acc (List.replicate k (Str.ofString "0").cps)).toList = acc.toList ++ List.replicate k 48 := by
        intro k
        induction k with
        | zero => intro acc; simp
        | succ k ih =>
          intro acc
          rw [List.replicate_succ, List.foldl_cons, ih, Array.toList_append, List.append_assoc]
          have e : (Str.ofString "0").cps.toList = [48] := by decide +kernel
          rw [e]
          rw [List.replicate_succ]
          rfl
      exact (this n.toNat #[]).trans (by simp)
theorem mul0_len (n : Int) : (Txt.mul "0" n).length = n.toNat := by
  show (Txt.mul "0" n).cps.size = _
  rw [← Array.length_toList, mul0_list, List.length_replicate]
theorem padS_len {n k : Int} (h0 : 0 ≤ n) (h1 : n ≤ 9999) (h2 : k ≤ 1000) : (padS n k).length ≤ 1004 := by
  unfold padS
  rw [str_len_app, mul0_len]
  have := numS_len h0 h1
  omega
theorem mem_len {l : List Str} {c : Nat} (h : l.all (fun p => decide (p.length ≤ c)) = true) {p : Str} (hp : p ∈ l) : p.length ≤ c := by
  rw [List.all_eq_true] at h
  simpa using h p hp
theorem monName_len (m : Int) : (monName m).length ≤ 3 := by
  unfold monName
  rw [List.getD_eq_getElem?_getD]
  cases h : monNames[(m - 1).toNat]? with
  | none => decide
  | some p => exact mem_len (l := monNames) (c := 3) (by decide +kernel) (List.mem_of_getElem? h)
theorem wdName_len (d : Dt) : (wdName d).length ≤ 3 := by
  unfold wdName
  rw [List.getD_eq_getElem?_getD]
  cases h : wdNames[(wdIx d).toNat]? with
  | none => decide
  | some p => exact mem_len (l := wdNames) (c := 3) (by decide +kernel) (List.mem_of_getElem? h)
theorem pc_len {p : Str} {d : Dt} (h : okD d) (hp : p.length ≤ 1000) : (pc p d).length ≤ 1004 := by
  unfold pc
  split
  · split
    · unfold sval
      have := monName_len d.2.1
      have := wdName_len d
      split <;> omega
    · refine padS_len (ival_bd h).1 (ival_bd h).2 ?_
      split
      · decide
      · omega
  · omega
theorem mon_at {m : Int} (h1 : 1 ≤ m) (h2 : m ≤ 12) : atI (monNames.map V.str) (m - 1) = some (.str (monName m)) := atI_getD _ (by omega) (by show m - 1 < 12; omega)
/-! ### the promises -/
section
variable {K : PySem.W.Frag} {H : Hp} {Q : VK} {E : XK} {d : Dt} {v u : V} {a b : Int} {ps : List Str} {p t : Str}
def sp_is_literal : Sp := fun vs H Q _ => ∃ p : Str, vs = [.str p] ∧ p.length ≤ 1000000 ∧ Ret (.bl (isLit p)) H Q
def small (ps : List Str) : Prop := ps.length ≤ 1000 ∧ ∀ p ∈ ps, p.length ≤ 1000
def sp_is_pattern (K : PySem.W.Frag) : Sp := fun vs H Q _ => ∃ v ps, vs = [v] ∧ StrsV K H ps v ∧ small ps ∧ Ret (.bl (isPat ps)) H Q
def sp_need_pattern (K : PySem.W.Frag) : Sp := fun vs H Q _ => ∃ v ps, vs = [v] ∧ StrsV K H ps v ∧ small ps ∧ isPat ps = true ∧ Ret .non H Q
def sp_need_text : Sp := fun vs H Q _ => ∃ t, vs = [.str t] ∧ Ret .non H Q
def sp_padded : Sp := fun vs H Q _ => ∃ n k, vs = [.int n, .int k] ∧ (0 ≤ n ∧ n ≤ 9999) ∧ (-1000 ≤ k ∧ k ≤ 1000) ∧ Ret (.str (padS n k)) H Q
def sp_value_of (K : PySem.W.Frag) : Sp := fun vs H Q _ => ∃ p v d, vs = [.str p, v] ∧ DateV K H d v ∧ okD d ∧ Ret (fval p d) H Q
def sp_piece (K : PySem.W.Frag) : Sp := fun vs H Q _ => ∃ p v d, vs = [.str p, v] ∧ DateV K H d v ∧ okD d ∧ p.length ≤ 1000 ∧ Ret (.str (pc p d)) H Q
def sp_written (K : PySem.W.Frag) : Sp := fun vs H Q _ => ∃ v ps u d, vs = [v, u] ∧ StrsV K H ps v ∧ small ps ∧ DateV K H d u ∧ okD d ∧ Ret (.str (wr ps d)) H Q
def sp_write (K : PySem.W.Frag) : Sp := fun vs H Q _ => ∃ v ps u d, vs = [v, u] ∧ StrsV K H ps v ∧ small ps ∧ isPat ps = true ∧ DateV K H d u ∧ isDt d = true ∧ Ret (.str (wr ps d)) H Q
theorem u_is_literal (hl : p.length ≤ 1000000) (q : Ret (.bl (isLit p)) H Q) : sp_is_literal [.str p] H Q E := ⟨p, rfl, hl, q⟩
theorem u_is_pattern (hd : StrsV K H ps v) (hl : small ps) (q : Ret (.bl (isPat ps)) H Q) : sp_is_pattern K [v] H Q E := ⟨v, ps, rfl, hd, hl, q⟩
theorem u_need_pattern (hd : StrsV K H ps v) (hl : small ps) (h : isPat ps = true) (q : Ret .non H Q) : sp_need_pattern K [v] H Q E := ⟨v, ps, rfl, hd, hl, h, q⟩
theorem u_need_text (q : Ret .non H Q) : sp_need_text [.str t] H Q E := ⟨t, rfl, q⟩
theorem u_padded (ha : 0 ≤ a ∧ a ≤ 9999) (hb : -1000 ≤ b ∧ b ≤ 1000) (q : Ret (.str (padS a b)) H Q) : sp_padded [.int a, .int b] H Q E := ⟨a, b, rfl, ha, hb, q⟩
theorem u_value_of (hd : DateV K H d v) (h : okD d) (q : Ret (fval p d) H Q) : sp_value_of K [.str p, v] H Q E := ⟨p, v, d, rfl, hd, h, q⟩
theorem u_piece (hd : DateV K H d v) (h : okD d) (hl : p.length ≤ 1000) (q : Ret (.str (pc p d)) H Q) : sp_piece K [.str p, v] H Q E := ⟨p, v, d, rfl, hd, h, hl, q⟩
theorem u_written (hs : StrsV K H ps v) (hl : small ps) (hd : DateV K H d u) (h : okD d) (q : Ret (.str (wr ps d)) H Q) : sp_written K [v, u] H Q E := ⟨v, ps, u, d, rfl, hs, hl, hd, h, q⟩
theorem u_write (hs : StrsV K H ps v) (hl : small ps) (hp : isPat ps = true) (hd : DateV K H d u) (h : isDt d = true) (q : Ret (.str (wr ps d)) H Q) : sp_write K [v, u] H Q E := ⟨v, ps, u, d, rfl, hs, hl, hp, hd, h, q⟩
end
end DP
namespace DP
open PySem L2
theorem fval_D {p : Str} {d : Dt} (h : inV (.str p) [.str "D", .str "DD"] = true) : fval p d = .int d.2.2 := by
  have h' : isIn p ["D", "DD"] = true := h
  rw [isIn_iff] at h'
  simp at h'
  rcases h' with rfl | rfl <;> rfl
theorem fval_M {p : Str} {d : Dt} (h : inV (.str p) [.str "M", .str "MM"] = true) : fval p d = .int d.2.1 := by
  have h' : isIn p ["M", "MM"] = true := h
  rw [isIn_iff] at h'
  simp at h'
  rcases h' with rfl | rfl <;> rfl
theorem fval_J {p : Str} {d : Dt} (h : inV (.str p) [.str "J", .str "JJJ"] = true) : fval p d = .int (piy d) := by
  have h' : isIn p ["J", "JJJ"] = true := h
  rw [isIn_iff] at h'
  simp at h'
  rcases h' with rfl | rfl <;> rfl
theorem fval_MON {d : Dt} : fval "MON" d = .str (monName d.2.1) := rfl
theorem fval_WD {d : Dt} : fval "WD" d = .str (wdName d) := rfl
theorem fval_Y {p : Str} {d : Dt} (h1 : inV (.str p) [.str "D", .str "DD"] = false) (h2 : inV (.str p) [.str "M", .str "MM"] = false) (h3 : inV (.str p) [.str "J", .str "JJJ"] = false) (h4 : ¬ p = "MON") (h5 : ¬ p = "WD") : fval p d = .int (if p = "YYYY" then d.1 else d.1 % 100) := by
  have e1 : isIn p ["D", "DD"] = false := h1
  have e2 : isIn p ["M", "MM"] = false := h2
  have e3 : isIn p ["J", "JJJ"] = false := h3
  have e4 : isIn p ["MON", "WD"] = false := by rw [isIn_false]; simp [h4, h5]
  unfold fval ival
  rw [e1, e2, e3, e4]
  simp
theorem fval_s {p : Str} {d : Dt} (h : inV (.str p) [.str "MON", .str "WD"] = true) : fval p d = .str (sval p d) := by
  have h' : isIn p ["MON", "WD"] = true := h
  unfold fval
  rw [if_pos h']
theorem fval_i {p : Str} {d : Dt} (h : inV (.str p) [.str "MON", .str "WD"] = false) : fval p d = .int (ival p d) := by
  have h' : isIn p ["MON", "WD"] = false := h
  unfold fval
  rw [h']
  simp
theorem small_tail {p : Str} {ps : List Str} (h : small ps) (hp : p ∈ ps) : p.length ≤ 1000 := h.2 p hp
end DP
namespace DP
open PySem L2
theorem pc_s {p : Str} {d : Dt} (h1 : inV (.str p) (fields.map V.str) = true) (h2 : inV (.str p) [.str "MON", .str "WD"] = true) : pc p d = sval p d := by
  have e1 : isField p = true := h1
  have e2 : isIn p ["MON", "WD"] = true := h2
  unfold pc
  rw [e1, e2]
  simp
theorem pc_i1 {p : Str} {d : Dt} (h1 : inV (.str p) (fields.map V.str) = true) (h2 : inV (.str p) [.str "MON", .str "WD"] = false) (h3 : inV (.str p) [.str "D", .str "M", .str "J"] = true) : pc p d = padS (ival p d) 1 := by
  have e1 : isField p = true := h1
  have e2 : isIn p ["MON", "WD"] = false := h2
  have e3 : isIn p ["D", "M", "J"] = true := h3
  unfold pc
  rw [e1, e2, e3]
  simp
theorem pc_i2 {p : Str} {d : Dt} (h1 : inV (.str p) (fields.map V.str) = true) (h2 : inV (.str p) [.str "MON", .str "WD"] = false) (h3 : inV (.str p) [.str "D", .str "M", .str "J"] = false) : pc p d = padS (ival p d) (p.length : Int) := by
  have e1 : isField p = true := h1
  have e2 : isIn p ["MON", "WD"] = false := h2
  have e3 : isIn p ["D", "M", "J"] = false := h3
  unfold pc
  rw [e1, e2, e3]
  simp
theorem pc_lit {p : Str} {d : Dt} (h1 : inV (.str p) (fields.map V.str) = false) : pc p d = p := by
  have e1 : isField p = false := h1
  unfold pc
  rw [e1]
  simp
theorem sum_len {ps : List Str} {d : Dt} (h : okD d) (hs : small ps) : ((ps.map fun p => pc p d).map (·.length)).sum ≤ 1004000 := by
  obtain ⟨h1, h2⟩ := hs
  have : ∀ (l : List Str), (∀ p ∈ l, p.length ≤ 1000) → ((l.map fun p => pc p d).map (·.length)).sum ≤ l.length * 1004 := by
    intro l
    induction l with
    | nil => intro _; simp
    | cons a l ih =>
      intro hl
      have := ih fun p hp => hl p (List.mem_cons_of_mem _ hp)
      have := pc_len h (hl a List.mem_cons_self)
      simp only [List.map_cons, List.sum_cons, List.length_cons]
      omega
  have := this ps h2
  omega
end DP
set_option Elab.async false
set_option linter.all false
set_option maxRecDepth 100000
set_option maxHeartbeats 1000000
namespace DP
open PySem L2
theorem snoc_ind {α : Type} {P : List α → Prop} (h0 : P []) (h1 : ∀ l a, P l → P (l ++ [a])) (l : List α) : P l := by
  have : ∀ r : List α, P r.reverse := by
    intro r
    induction r with
    | nil => exact h0
    | cons a r ih => rw [List.reverse_cons]; exact h1 _ _ ih
  have h := this l.reverse
  rwa [List.reverse_reverse] at h
/-! ### tables -/
abbrev Tb := List (Str × List Dt)
def tAdd (k : Str) (d : Dt) : Tb → Tb
  | [] => [(k, [d])]
  | e :: t => if e.1 = k then (e.1, e.2 ++ [d]) :: t else e :: tAdd k d t
def tblF (f : Dt → Str) (ds : List Dt) : Tb := ds.foldl (fun t d => tAdd (f d) d t) []
def tGet (t : Tb) (k : Str) : Option (List Dt) := (t.find? fun e => decide (e.1 = k)).map (·.2)
theorem tblF_snoc (f : Dt → Str) (ds : List Dt) (d : Dt) : tblF f (ds ++ [d]) = tAdd (f d) d (tblF f ds) := by unfold tblF; rw [List.foldl_append]; rfl
theorem tGet_add (k j : Str) (d : Dt) : ∀ t : Tb, tGet (tAdd k d t) j = if j = k then some ((tGet t k).getD [] ++ [d]) else tGet t j
  | [] => by
    unfold tAdd tGet
    by_cases h : j = k
    · subst h; simp
    · simp [h, Ne.symm h, fun e : k = j => h e.symm]
  | e :: t => by
    have ih := tGet_add k j d t
    unfold tAdd
    by_cases h1 : e.1 = k
    · rw [if_pos h1]
      by_cases h2 : j = k
      · subst h2
        unfold tGet
        simp [h1]
      · have : ¬ e.1 = j := fun z => h2 (z ▸ h1 ▸ rfl)
        have hkj : ¬ k = j := fun e : k = j => h2 e.symm
        rw [if_neg h2]
        unfold tGet
        rw [List.find?_cons, List.find?_cons]
        simp [this]
    · rw [if_neg h1]
      by_cases h3 : e.1 = j
      · have : ¬ j = k := fun z => h1 (h3.trans z)
        rw [if_neg this]
        unfold tGet
        simp [h3]
      · unfold tGet at ih ⊢
        rw [List.find?_cons, List.find?_cons, List.find?_cons]
        simp only [h1, h3, decide_false]
        exact ih
theorem tGet_tbl (f : Dt → Str) (k : Str) : ∀ ds : List Dt, (tGet (tblF f ds) k).getD [] = ds.filter (fun d => decide (f d = k)) ∧ ((tGet (tblF f ds) k).isSome = ds.any fun d => decide (f d = k)) := by
  refine snoc_ind ⟨rfl, rfl⟩ fun ds d ih => ?_
  rw [tblF_snoc, tGet_add, List.filter_append, List.any_append]
  by_cases h : k = f d
  · rw [if_pos h]
    subst h
    refine ⟨?_, by simp⟩
    simp [ih.1]
  · rw [if_neg h]
    have h' : ¬ f d = k := fun z => h z.symm
    simp [h', ih.1, ih.2]
/-- a table in the heap -/
def EntV (K : PySem.W.Frag) (H : Hp) (e : Str × List Dt) (kv : Key × V) : Prop := kv.1 = Sum.inr e.1 ∧ ∃ l xs, kv.2 = .ref l ∧ H l = some (.lst xs) ∧ DatesV K H e.2 xs
def TblV (K : PySem.W.Frag) (H : Hp) (t : Tb) (kvs : List (Key × V)) : Prop := Paired (EntV K H) t kvs
theorem EntV.ex {K : PySem.W.Frag} {H H' : Hp} {e : Str × List Dt} {kv : Key × V} (x : Ex H H') (h : EntV K H e kv) : EntV K H' e kv := by
  obtain ⟨h1, l, xs, h2, h3, h4⟩ := h
  exact ⟨h1, l, xs, h2, x _ _ h3, h4.tk (Tk.of x)⟩
theorem TblV.ex {K : PySem.W.Frag} {H H' : Hp} {t : Tb} {kvs : List (Key × V)} (x : Ex H H') (h : TblV K H t kvs) : TblV K H' t kvs := Paired.mapP h fun _ _ q => q.ex x
theorem TblV.get {K : PySem.W.Frag} {H : Hp} {k : Str} : ∀ {t : Tb} {kvs : List (Key × V)}, TblV K H t kvs →
    (valV kvs (Sum.inr k : Key) = none ∧ tGet t k = none) ∨ ∃ ds l xs, tGet t k = some ds ∧ valV kvs (Sum.inr k : Key) = some (.ref l) ∧ H l = some (.lst xs) ∧ DatesV K H ds xs
  | _, _, .nil => .inl ⟨valV_nil, rfl⟩
  | e :: t, kv :: kvs, .cons r q => by
    obtain ⟨h1, l, xs, h2, h3, h4⟩ := r
    by_cases hk : e.1 = k
    · refine .inr ⟨e.2, l, xs, ?_, ?_, h3, h4⟩
      · unfold tGet; simp [hk]
      · rw [valV_pos (by rw [h1, hk])]
        rw [h2]
    · have hk' : ¬ kv.1 = (Sum.inr k : Key) := fun z => hk (by rw [h1] at z; exact Sum.inr.inj z)
      rw [valV_neg hk']
      have e2 : tGet (e :: t) k = tGet t k := by unfold tGet; simp [hk]
      rw [e2]
      exact TblV.get q
theorem TblV.len {K : PySem.W.Frag} {H : Hp} {t : Tb} {kvs : List (Key × V)} (h : TblV K H t kvs) : kvs.length = t.length := (Paired.length h).symm
theorem tAdd_new {k : Str} {d : Dt} : ∀ {t : Tb}, tGet t k = none → tAdd k d t = t ++ [(k, [d])]
  | [], _ => rfl
  | e :: t, h => by
    by_cases hk : e.1 = k
    · unfold tGet at h; simp [hk] at h
    · have : tGet t k = none := by unfold tGet at h ⊢; simpa [hk] using h
      unfold tAdd
      rw [if_neg hk, tAdd_new this]
      rfl
theorem tAdd_len (k : Str) (d : Dt) : ∀ t : Tb, (tAdd k d t).length ≤ t.length + 1
  | [] => by simp [tAdd]
  | e :: t => by
    unfold tAdd
    split
    · simp
    · have := tAdd_len k d t
      simp
      omega
theorem tblF_len (f : Dt → Str) (ds : List Dt) : (tblF f ds).length ≤ ds.length := by
  refine snoc_ind (P := fun ds => (tblF f ds).length ≤ ds.length) (by simp [tblF]) (fun ds d ih => ?_) ds
  show (tblF f (ds ++ [d])).length ≤ (ds ++ [d]).length
  rw [tblF_snoc, List.length_append]
  have := tAdd_len (f d) d (tblF f ds)
  simp
  omega
/-- one list of the table grows -/
theorem TblV.grow {K : PySem.W.Frag} {H : Hp} {k : Str} {d : Dt} {v : V} {l : Addr} {xs : List V} (hl : H l = some (.lst xs)) (hv : DateV K H d v) : ∀ {t : Tb} {kvs : List (Key × V)}, TblV K H t kvs → (kvs.map (·.2)).Nodup → valV kvs (Sum.inr k : Key) = some (.ref l) → TblV K (upd H l (.lst (xs ++ [v]))) (tAdd k d t) kvs
  | _, _, .nil, _, h => by rw [valV_nil] at h; cases h
  | e :: t, kv :: kvs, .cons r q, nd, h => by
    have nd' : (kv.2 :: kvs.map (·.2)).Nodup := nd
    obtain ⟨n1, n2⟩ := List.nodup_cons.mp nd'
    obtain ⟨h1, l', xs', h2, h3, h4⟩ := r
    have tk : Tk H (upd H l (.lst (xs ++ [v]))) := Tk.lst hl
    by_cases hk : e.1 = k
    · rw [valV_pos (by rw [h1, hk]), h2] at h
      have el : l' = l := by injection h with h; injection h
      subst el
      rw [hl] at h3
      have ex : xs = xs' := by injection h3 with h3; injection h3
      subst ex
      unfold tAdd
      rw [if_pos hk]
      refine .cons ⟨h1, l', xs ++ [v], h2, upd_same, paired_app (h4.tk tk) (.cons (hv.tk tk) .nil)⟩ ?_
      have : ∀ {t : Tb} {kvs : List (Key × V)}, TblV K H t kvs → ¬ (V.ref l') ∈ kvs.map (·.2) → TblV K (upd H l' (.lst (xs ++ [v]))) t kvs := by
        intro t kvs q
        induction q with
        | nil => intro _; exact .nil
        | cons r q ih =>
          intro hn
          rw [List.map_cons, List.mem_cons] at hn
          obtain ⟨h1, l2, xs2, h2, h3, h4⟩ := r
          refine .cons ⟨h1, l2, xs2, h2, ?_, h4.tk tk⟩ (ih fun z => hn (.inr z))
          rw [upd_ne (fun z => hn (.inl (by rw [h2, z])))]
          exact h3
      refine this q ?_
      intro z
      apply n1
      rw [h2]
      exact z
    · have hk' : ¬ kv.1 = (Sum.inr k : Key) := fun z => hk (by rw [h1] at z; exact Sum.inr.inj z)
      rw [valV_neg hk'] at h
      unfold tAdd
      rw [if_neg hk]
      refine .cons ⟨h1, l', xs', h2, ?_, h4.tk tk⟩ (TblV.grow hl hv q n2 h)
      rw [upd_ne fun z => n1 ?_]
      · exact h3
      · rw [h2, z]
        have := valV_mem h
        exact this
where
  valV_mem {kvs : List (Key × V)} {k : Key} {v : V} (h : valV kvs k = some v) : v ∈ kvs.map (·.2) := by
    unfold valV at h
    cases e : kvs.find? (fun kv => decide (kv.1 = k)) with
    | none => rw [e] at h; simp at h
    | some kv =>
      rw [e] at h
      simp at h
      rw [← h]
      exact List.mem_map.mpr ⟨kv, List.mem_of_find?_eq_some e, rfl⟩
/-! ### dates of a span -/
theorem mem_dates {a b : Int} (h : isSp a b = true) {d : Dt} (hd : d ∈ datesIn a b) : isDt d = true := by
  unfold datesIn at hd
  rw [List.mem_flatMap] at hd
  obtain ⟨i, hi, hd⟩ := hd
  unfold yearDays at hd
  rw [List.mem_flatMap] at hd
  obtain ⟨j, hj, hd⟩ := hd
  unfold monthDays at hd
  rw [List.mem_map] at hd
  obtain ⟨m, hm, rfl⟩ := hd
  rw [List.mem_range] at hi hj hm
  have := mlen_bd (a + (i : Int)) (1 + (j : Int))
  simp [isSp, isCnt] at h
  simp [isDt, isCnt]
  omega
theorem datesIn_len (a b : Int) (h : isSp a b = true) : (datesIn a b).length ≤ 4464 := by
  have := flatMap_len (fun (i : Nat) => yearDays_len (a + (i : Int))) (List.range (b + 1 - a).toNat)
  unfold datesIn
  rw [List.length_range] at this
  simp [isSp, isCnt] at h
  omega
/-! ### promises -/
def TbFr (H : Hp) (kvs : List (Key × V)) : Prop := (kvs.map (·.2)).Nodup ∧ ∀ l, V.ref l ∈ kvs.map (·.2) → H l = none
def RetT (K : PySem.W.Frag) (t : Tb) (H : Hp) (Q : VK) : Prop := ∀ d H' kvs, H d = none → Ex H H' → H' d = some (.dK kvs) → TblV K H' t kvs → TbFr H kvs → Q (.ref d) H'
section
variable {K : PySem.W.Frag} {H : Hp} {Q : VK} {E : XK} {v u : V} {a b : Int} {ps : List Str} {t : Str}
def sp_table (K : PySem.W.Frag) : Sp := fun vs H Q _ => ∃ v ps u a b, vs = [v, u] ∧ StrsV K H ps v ∧ small ps ∧ SpanV K H a b u ∧ isSp a b = true ∧ RetT K (tblF (wr ps) (datesIn a b)) H Q
theorem u_table (hp : StrsV K H ps v) (hs : small ps) (hd : SpanV K H a b u) (h : isSp a b = true) (q : RetT K (tblF (wr ps) (datesIn a b)) H Q) : sp_table K [v, u] H Q E := ⟨v, ps, u, a, b, rfl, hp, hs, hd, h, q⟩
def reads (ps : List Str) (a b : Int) (t : Str) : List Dt := (datesIn a b).filter fun d => decide (wr ps d = t)
def sp_readings (K : PySem.W.Frag) : Sp := fun vs H Q _ => ∃ v ps u a b t, vs = [v, u, .str t] ∧ StrsV K H ps v ∧ small ps ∧ isPat ps = true ∧ SpanV K H a b u ∧ isSp a b = true ∧ RetDs K (reads ps a b t) H Q
theorem u_readings (hp : StrsV K H ps v) (hs : small ps) (hi : isPat ps = true) (hd : SpanV K H a b u) (h : isSp a b = true) (q : RetDs K (reads ps a b t) H Q) : sp_readings K [v, u, .str t] H Q E := ⟨v, ps, u, a, b, t, rfl, hp, hs, hi, hd, h, q⟩
end
theorem Bt.tkd {t : Addr} {ys : List (Key × V)} {H H' : Hp} (e : Bt t H H') (h : H t = some (.dK ys)) : Tk H H' :=
  ⟨fun a xs q => e a _ (fun z => by rw [z, h] at q; cases q) q, fun a o u q => e a _ (fun z => by rw [z, h] at q; cases q) q⟩
end DP
set_option Elab.async false
set_option linter.all false
set_option maxRecDepth 100000
set_option maxHeartbeats 1000000
namespace DP
open PySem L2
/-! ### data: shape, and == -/
def sh (n : Nat) (d : PyData) : Prop := d.canLay0 = true ∧ d.depth ≤ n
def shA (n : Nat) (ds : List PyData) : Prop := PyData.canLayAll0 ds = true ∧ PyData.depthAll ds ≤ n
theorem sh_int (n : Nat) (i : Int) : sh n (.int i) := ⟨by simp [PyData.canLay0], by simp [PyData.depth]⟩
theorem sh_non (n : Nat) : sh n .none := ⟨by simp [PyData.canLay0], by simp [PyData.depth]⟩
theorem sh_bl (n : Nat) (b : Bool) : sh n (.bool b) := ⟨by simp [PyData.canLay0], by simp [PyData.depth]⟩
theorem sh_str (n : Nat) {x : Str} (h : PyData.strOk x = true) : sh n (.str x) := ⟨by simp [PyData.canLay0, h], by simp [PyData.depth]⟩
theorem shA_nil (n : Nat) : shA n [] := ⟨by simp [PyData.canLayAll0], by simp [PyData.depthAll]⟩
theorem shA_cons {n : Nat} {d : PyData} {ds : List PyData} (h : sh n d) (hs : shA n ds) : shA n (d :: ds) := ⟨by simp [PyData.canLayAll0, h.1, hs.1], by have := h.2; have := hs.2; simp [PyData.depthAll]; omega⟩
theorem shA_all {n : Nat} : ∀ {ds : List PyData}, (∀ d ∈ ds, sh n d) → shA n ds
  | [], _ => shA_nil n
  | d :: ds, h => shA_cons (h d List.mem_cons_self) (shA_all fun e he => h e (List.mem_cons_of_mem _ he))
theorem shA_map {α : Type} {n : Nat} {f : α → PyData} {l : List α} (h : ∀ a, sh n (f a)) : shA n (l.map f) := shA_all fun d hd => by
  obtain ⟨a, _, rfl⟩ := List.mem_map.mp hd
  exact h a
theorem sh_list {n : Nat} {ds : List PyData} (h : shA n ds) : sh (n + 1) (.list ds) := ⟨by simp [PyData.canLay0, h.1], by have := h.2; simp [PyData.depth]; omega⟩
theorem sh_tup {n : Nat} {ds : List PyData} (h : shA n ds) : sh (n + 1) (.tuple ds) := ⟨by simp [PyData.canLay0, h.1], by have := h.2; simp [PyData.depth]; omega⟩
theorem sh_ok {n : Nat} {d : PyData} (h : sh n d) (hn : n ≤ 64 := by decide) : SeqAt.shaped d = true := by
  unfold SeqAt.shaped
  rw [h.1, decide_eq_true (Nat.le_trans h.2 hn)]
  rfl
def dD (d : Dt) : PyData := .tuple [.int d.1, .int d.2.1, .int d.2.2]
theorem sh_dD (n : Nat) (d : Dt) : sh (n + 1) (dD d) := sh_tup (shA_cons (sh_int n _) (shA_cons (sh_int n _) (shA_cons (sh_int n _) (shA_nil n))))
mutual
def clean : PyData → Bool
  | .none | .int _ | .str _ => true
  | .list xs | .tuple xs => cleanA xs
  | .bool _ | .dict _ => false
def cleanA : List PyData → Bool
  | [] => true
  | x :: xs => clean x && cleanA xs
end
mutual
theorem eqv_iff : ∀ (d e : PyData), clean d = true → clean e = true → (PyData.eqv d e = true ↔ d = e)
  | .none, e, _, h => by cases e <;> simp_all [PyData.eqv, clean]
  | .int i, e, _, h => by cases e <;> simp_all [PyData.eqv, clean]
  | .str i, e, _, h => by cases e <;> simp_all [PyData.eqv, clean]
  | .bool _, _, h, _ => by simp [clean] at h
  | .dict _, _, h, _ => by simp [clean] at h
  | .list xs, e, h, h2 => by
    cases e with
    | list ys =>
      have := eqvA_iff xs ys (by simpa [clean] using h) (by simpa [clean] using h2)
      simp [PyData.eqv, this]
    | _ => simp_all [PyData.eqv, clean]
  | .tuple xs, e, h, h2 => by
    cases e with
    | tuple ys =>
      have := eqvA_iff xs ys (by simpa [clean] using h) (by simpa [clean] using h2)
      simp [PyData.eqv, this]
    | _ => simp_all [PyData.eqv, clean]
theorem eqvA_iff : ∀ (xs ys : List PyData), cleanA xs = true → cleanA ys = true → (PyData.eqvAll xs ys = true ↔ xs = ys)
  | [], [], _, _ => by simp [PyData.eqvAll]
  | [], y :: ys, _, _ => by simp [PyData.eqvAll]
  | x :: xs, [], _, _ => by simp [PyData.eqvAll]
  | x :: xs, y :: ys, h, h2 => by
    have h' : clean x = true ∧ cleanA xs = true := by simpa [cleanA] using h
    have h2' : clean y = true ∧ cleanA ys = true := by simpa [cleanA] using h2
    have e1 := eqv_iff x y h'.1 h2'.1
    have e2 := eqvA_iff xs ys h'.2 h2'.2
    simp [PyData.eqvAll, e1, e2]
end
theorem cleanA_map {α : Type} {f : α → PyData} {l : List α} (h : ∀ a, clean (f a) = true) : cleanA (l.map f) = true := by
  induction l with
  | nil => rfl
  | cons a l ih => simp [cleanA, h a, ih]
theorem clean_dD (d : Dt) : clean (dD d) = true := rfl
theorem eqv_true {d : PyData} {n : Nat} (h : sh n d) : PyData.eqv d d = true := SeqAt.eqv_refl d h.1
section
variable {K : PySem.W.Frag} {H : Hp}
theorem dpA_ints (ns : List Int) : DpAll K H (ns.map V.int) (ns.map PyData.int) := by
  induction ns with
  | nil => exact .nil
  | cons n ns ih => exact .cons (.int n) ih
theorem dpA_strs (ns : List Str) : DpAll K H (ns.map V.str) (ns.map PyData.str) := by
  induction ns with
  | nil => exact .nil
  | cons n ns ih => exact .cons (.str n) ih
theorem dp_date {d : Dt} {v : V} (h : DateV K H d v) : Dp K H v (dD d) := by
  obtain ⟨a, rfl, hq⟩ := h
  exact .tup hq (.cons (.int _) (.cons (.int _) (.cons (.int _) .nil)))
theorem dpA_dates {ds : List Dt} {xs : List V} (h : DatesV K H ds xs) : DpAll K H xs (ds.map dD) := by
  induction h with
  | nil => exact .nil
  | cons r t ih => exact .cons (dp_date r) ih
end
/-! ### town[0] += 1 -/
section
variable {X : Cx} {P : Program} {w : World} {K : PySem.W.Frag} {mg : Str → Option Value} {base : Heap} {N : List Str} {sc : Scope} {k : Nat} {lv : Bool}
variable {σ : L2.St} {H : Hp} {o i e : Expr} {pos tpos : Pos} {nx : L2.St → Hp → Prop} {rt : VK} {bk ct : L2.St → Hp → Prop}
theorem get_listP : PGet X (fun o i H Q => ∃ p xs, ∃ j : Nat, ∃ v, o = .ref p ∧ i = .int (j : Int) ∧ H p = some (.lst xs) ∧ xs[j]? = some v ∧ Q v H) := by
  intro pins s σ H o i ov iv Q I ro ri h
  obtain ⟨p, xs, j, v, rfl, rfl, hp, hx, q⟩ := h
  cases ro
  obtain ⟨t, rfl⟩ := ri
  obtain ⟨its, r, pl, hz⟩ := I.list (SqL.of hp)
  obtain ⟨u, ew, ru⟩ := r.get hx
  have hl := r.length
  have hb : j < xs.length := (List.getElem?_eq_some_iff.mp hx).1
  have hn := line63
  exact wpAny_getItem_list pl.isList (by omega) (by omega) (by rw [Int.toNat_natCast]; simpa using ew) ⟨v, H, I, ru, q⟩
theorem s_augL {op : Operator} (h : wE X o σ H fun ov H1 => wE X i σ H1 fun iv H2 => ∃ p xs, ∃ j : Nat, ∃ v, ov = .ref p ∧ iv = .int (j : Int) ∧ H2 p = some (.lst xs) ∧ xs[j]? = some v ∧ wE X e σ H2 fun y H3 => wOp X (inplaceOp op) v y H3 fun z H4 => ∃ xs' k' j', V.int (j : Int) = .int k' ∧ H4 p = some (.lst xs') ∧ ixN xs'.length k' = some j' ∧ nx σ (upd H4 p (.lst (xs'.set j' z))))
    (ha : ∀ ov iv new, augStore i ov iv new = (do holding [new, ov, iv] (setItem ov iv new); release [new, ov, iv] []; pure .next) := by intros; rfl) : wS X (.AugAssign (.Subscript o i tpos) op e pos) nx rt bk ct σ H :=
  goS (ps_augS (tip := wOp X (inplaceOp op)) peW peW get_listP peW (fun pins s σ H x y v u Q I rx ry h => h.run pins s σ v u I rx ry) set_list ha)
    (wE_mono (fun ov H1 q => wE_mono (fun iv H2 ⟨p, xs, j, v, e1, e2, hp, hx, q⟩ => ⟨p, xs, j, v, e1, e2, hp, hx, wE_mono (fun y H3 q => ⟨fun pins s σ' vv uu I r1 r2 => thn (q.run pins s σ' vv uu I r1 r2) fun u s1 ⟨z, H4, I4, rz, xs', k', j', e3, h4, h5, q⟩ => ⟨z, H4, I4, rz, p, xs', k', j', e1, e2.trans e3, h4, h5, q⟩⟩) q⟩) q) h)
theorem o_iadd {a b : Int} {Q : VK} (h : Q (.int (a + b)) H) : wOp X (inplaceOp .Add) (.int a) (.int b) H Q := goOp iop_add ⟨a, b, rfl, rfl, h⟩
theorem o_mulW {a b : Int} {Q : VK} (h : Q (.int (a * b)) H) (hc : CMulW a b) : wOp X (binaryOp .Mult) (.int a) (.int b) H Q := goOp op_mulW ⟨a, b, rfl, rfl, hc, h⟩
end
/-! ### the law's own tools -/
def TownAt (H : Hp) (t : Addr) : Prop := ∃ p r : Int, H t = some (.lst [.int p, .int r]) ∧ 0 ≤ p
theorem TownAt.ex {H H' : Hp} {t : Addr} (e : Ex H H') (h : TownAt H t) : TownAt H' t := by
  obtain ⟨p, r, h1, h2⟩ := h
  exact ⟨p, r, e _ _ h1, h2⟩
theorem TownAt.tk {H H' : Hp} {t : Addr} (h : TownAt H t) (b : Bt t H H') : Tk H H' := by
  obtain ⟨p, r, h1, h2⟩ := h
  exact Tk.bt b h1
/-- the script and the town -/
structure Law0 (K : PySem.W.Frag) (H : Hp) (a t : Addr) (ns : List Int) : Prop where
  fz : Fz K H a (ns.map V.int)
  len : ns.length ≤ 63
  town : TownAt H t
theorem Law0.ex {K : PySem.W.Frag} {H H' : Hp} {a t : Addr} {ns : List Int} (e : Ex H H') (h : Law0 K H a t ns) : Law0 K H' a t ns := ⟨h.fz.tk (Tk.of e), h.len, h.town.ex e⟩
theorem Law0.bt {K : PySem.W.Frag} {H H' : Hp} {a t : Addr} {ns : List Int} (h : Law0 K H a t ns) (b : Bt t H H') (ht : TownAt H' t) : Law0 K H' a t ns := ⟨h.fz.tk (h.town.tk b), h.len, ht⟩
theorem Law0.tk {K : PySem.W.Frag} {H H' : Hp} {a t : Addr} {ns : List Int} (h : Law0 K H a t ns) (b : Bt t H H') : Tk H H' := h.town.tk b
def sp_draw (K : PySem.W.Frag) : Sp := fun vs H Q _ => ∃ a ns t m, vs = [.ref a, .ref t, .int m] ∧ Law0 K H a t ns ∧ (0 < m ∧ m < 1073741824) ∧ ∀ k H', 0 ≤ k → k < m → Bt t H H' → TownAt H' t → Q (.int k) H'
theorem u_draw {K : PySem.W.Frag} {H : Hp} {Q : VK} {E : XK} {a t : Addr} {ns : List Int} {m : Int} (h : Law0 K H a t ns) (hm : 0 < m ∧ m < 1073741824) (q : ∀ k H', 0 ≤ k → k < m → Bt t H H' → TownAt H' t → Q (.int k) H') : sp_draw K [.ref a, .ref t, .int m] H Q E := ⟨a, ns, t, m, rfl, h, hm, q⟩
def sp_pick (K : PySem.W.Frag) : Sp := fun vs H Q _ => ∃ a ns t s xs, vs = [.ref a, .ref t, .ref s] ∧ Law0 K H a t ns ∧ (SqL K H s xs ∨ SqT K H s xs) ∧ (0 < xs.length ∧ xs.length ≤ 1000000) ∧ s ≠ t ∧ ∀ (i : Nat) v H', xs[i]? = some v → Bt t H H' → TownAt H' t → Q v H'
theorem u_pick {K : PySem.W.Frag} {H : Hp} {Q : VK} {E : XK} {a t s : Addr} {ns : List Int} {xs : List V} (h : Law0 K H a t ns) (hs : SqL K H s xs ∨ SqT K H s xs) (hl : 0 < xs.length ∧ xs.length ≤ 1000000) (hne : s ≠ t) (q : ∀ (i : Nat) v H', xs[i]? = some v → Bt t H H' → TownAt H' t → Q v H') : sp_pick K [.ref a, .ref t, .ref s] H Q E := ⟨a, ns, t, s, xs, rfl, h, hs, hl, hne, q⟩
end DP
set_option Elab.async false
set_option linter.all false
set_option maxRecDepth 100000
set_option maxHeartbeats 1000000
namespace DP
open PySem L2
/-! ### the law's patterns -/
def lits : List Str := ["-", "/", ".", ", ", " ", ":"]
def lawFields : List Str := ["D", "DD", "M", "MM", "MON", "YY", "YYYY", "J", "JJJ", "WD", "D", "M"]
def adj (ps : List Str) : Bool := !((ps.zip (ps.drop 1)).any fun q => !isField q.1 && !isField q.2)
theorem adj_nil : adj [] = true := rfl
theorem adj_one (p : Str) : adj [p] = true := rfl
theorem adj_cons (p q : Str) (ps : List Str) : adj (p :: q :: ps) = ((isField p || isField q) && adj (q :: ps)) := by
  unfold adj
  simp only [List.drop_succ_cons, List.drop_zero, List.zip_cons_cons, List.any_cons, Bool.not_or]
  cases isField p <;> cases isField q <;> simp
theorem adj_snoc (ps : List Str) (l p : Str) : adj (ps ++ [l] ++ [p]) = (adj (ps ++ [l]) && (isField l || isField p)) := by
  induction ps with
  | nil => show adj [l, p] = (adj [l] && _); rw [adj_cons, adj_one, adj_one]; simp
  | cons a ps ih =>
    cases ps with
    | nil =>
      show adj [a, l, p] = (adj [a, l] && _)
      rw [adj_cons, adj_cons, adj_cons, adj_one, adj_one]
      cases isField a <;> cases isField l <;> cases isField p <;> rfl
    | cons b ps =>
      have e1 : (a :: b :: ps) ++ [l] ++ [p] = a :: b :: (ps ++ [l] ++ [p]) := by simp
      have e2 : (a :: b :: ps) ++ [l] = a :: b :: (ps ++ [l]) := by simp
      have e3 : (b :: ps) ++ [l] ++ [p] = b :: (ps ++ [l] ++ [p]) := by simp
      have e4 : (b :: ps) ++ [l] = b :: (ps ++ [l]) := by simp
      rw [e3, e4] at ih
      rw [e1, e2, adj_cons, adj_cons, ih, Bool.and_assoc]
/-- parts as the law draws them -/
def drawn (ps : List Str) : Prop := (∀ p ∈ ps, p ∈ fields ∨ p ∈ lits) ∧ adj ps = true
def LPat (n : Nat) (ps : List Str) : Prop := drawn ps ∧ 1 ≤ ps.length ∧ ps.length ≤ n
theorem all_mem {l : List Str} {P : Str → Bool} (h : l.all P = true) {p : Str} (hp : p ∈ l) : P p = true := List.all_eq_true.mp h p hp
theorem part_ok {p : Str} (h : p ∈ fields ∨ p ∈ lits) : (isField p || isLit p) = true ∧ PyData.strOk p = true ∧ p.length ≤ 4 ∧ 1 ≤ p.length := by
  have : (fields ++ lits).all (fun p => (isField p || isLit p) && (PyData.strOk p && (decide (p.length ≤ 4) && decide (1 ≤ p.length)))) = true := by decide +kernel
  have := all_mem this (p := p) (List.mem_append.mpr h)
  simpa using this
theorem alpha_field {p : Str} (h : p ∈ fields ∨ p ∈ lits) : Txt.isalpha p = isField p := by
  have : (fields ++ lits).all (fun p => Txt.isalpha p == isField p) = true := by decide +kernel
  have := all_mem this (p := p) (List.mem_append.mpr h)
  simpa using this
theorem lit_mem {p : Str} (h : p ∈ lits) : p ∈ fields ∨ p ∈ lits := .inr h
theorem lawField_mem {p : Str} (h : p ∈ lawFields) : p ∈ fields ∧ isField p = true := by
  have : lawFields.all (fun p => isField p) = true := by decide +kernel
  have h2 := all_mem this h
  exact ⟨isIn_iff.mp h2, h2⟩
theorem LPat.pat {n : Nat} {ps : List Str} (h : LPat n ps) (hn : n ≤ 7) : isPat ps = true := by
  obtain ⟨⟨h1, h2⟩, h3, h4⟩ := h
  unfold isPat
  rw [decide_eq_true h3, decide_eq_true (by omega : ps.length ≤ 7)]
  have e : ps.all (fun p => isField p || isLit p) = true := List.all_eq_true.mpr fun p hp => (part_ok (h1 p hp)).1
  rw [e]
  simpa [adj] using h2
theorem LPat.small {n : Nat} {ps : List Str} (h : LPat n ps) (hn : n ≤ 1000) : small ps := by
  obtain ⟨⟨h1, h2⟩, h3, h4⟩ := h
  exact ⟨by omega, fun p hp => by have := (part_ok (h1 p hp)).2.2.1; omega⟩
theorem drawn.snocF {ps : List Str} {p : Str} (h : drawn ps) (hp : p ∈ fields) (hf : isField p = true) : drawn (ps ++ [p]) := by
  obtain ⟨h1, h2⟩ := h
  refine ⟨fun q hq => ?_, ?_⟩
  · rcases List.mem_append.mp hq with hq | hq
    · exact h1 q hq
    · rw [List.mem_singleton.mp hq]; exact .inl hp
  · rcases List.eq_nil_or_concat ps with rfl | ⟨qs, l, rfl⟩
    · rfl
    · rw [List.concat_eq_append] at *
      rw [adj_snoc, h2, hf]
      simp
theorem drawn.snocL {ps : List Str} {l p : Str} (h : drawn (ps ++ [l])) (hl : isField l = true) (hp : p ∈ lits) : drawn (ps ++ [l] ++ [p]) := by
  obtain ⟨h1, h2⟩ := h
  refine ⟨fun q hq => ?_, ?_⟩
  · rcases List.mem_append.mp hq with hq | hq
    · exact h1 q hq
    · rw [List.mem_singleton.mp hq]; exact .inr hp
  · rw [adj_snoc, h2, hl]
    simp
/-! ### promises -/
section
variable {K : PySem.W.Frag} {H : Hp} {Q : VK} {E : XK} {a t : Addr} {ns : List Int} {m : Int}
def sp_lpat (K : PySem.W.Frag) : Sp := fun vs H Q _ => ∃ a ns t m, vs = [.ref a, .ref t, .int m] ∧ Law0 K H a t ns ∧ (1 ≤ m ∧ m ≤ 7) ∧ ∀ p ps H', H p = none → Bt t H H' → TownAt H' t → H' p = some (.tup (ps.map V.str)) → LPat m.toNat ps → Q (.ref p) H'
theorem u_lpat (h : Law0 K H a t ns) (hm : 1 ≤ m ∧ m ≤ 7) (q : ∀ p ps H', H p = none → Bt t H H' → TownAt H' t → H' p = some (.tup (ps.map V.str)) → LPat m.toNat ps → Q (.ref p) H') : sp_lpat K [.ref a, .ref t, .int m] H Q E := ⟨a, ns, t, m, rfl, h, hm, q⟩
def firsts : List Int := [1600, 1899, 1999, 2000, 2001, 2004, 2099, 2398]
def sp_lspan (K : PySem.W.Frag) : Sp := fun vs H Q _ => ∃ a ns t, vs = [.ref a, .ref t] ∧ Law0 K H a t ns ∧ ∀ p y0 y1 H', H p = none → Bt t H H' → TownAt H' t → H' p = some (.tup [.int y0, .int y1]) → y0 ∈ firsts → (y1 = y0 ∨ y1 = y0 + 1) → Q (.ref p) H'
theorem u_lspan (h : Law0 K H a t ns) (q : ∀ p y0 y1 H', H p = none → Bt t H H' → TownAt H' t → H' p = some (.tup [.int y0, .int y1]) → y0 ∈ firsts → (y1 = y0 ∨ y1 = y0 + 1) → Q (.ref p) H') : sp_lspan K [.ref a, .ref t] H Q E := ⟨a, ns, t, rfl, h, q⟩
theorem firsts_sp {y0 y1 : Int} (h : y0 ∈ firsts) (h1 : y1 = y0 ∨ y1 = y0 + 1) : isSp y0 y1 = true := by
  simp [firsts] at h
  simp [isSp, isCnt]
  omega
end
end DP
namespace DP
open PySem L2
theorem eqv_nil {xs : List PyData} (h : xs ≠ []) : PyData.eqv (.list xs) (.list []) = false := by
  cases xs with
  | nil => exact absurd rfl h
  | cons x xs => simp [PyData.eqv, PyData.eqvAll]
theorem eqv_nil0 : PyData.eqv (.list []) (.list []) = true := by simp [PyData.eqv, PyData.eqvAll]
theorem eqv_nil1 {xs : List PyData} (h : xs ≠ []) : PyData.eqv (.tuple xs) (.tuple []) = false := by
  cases xs with
  | nil => exact absurd rfl h
  | cons x xs => simp [PyData.eqv, PyData.eqvAll]
theorem sh_strs {n : Nat} {ps : List Str} (h : ∀ p ∈ ps, PyData.strOk p = true) : sh (n + 1) (.list (ps.map PyData.str)) := sh_list (shA_all fun d hd => by
  obtain ⟨p, hp, rfl⟩ := List.mem_map.mp hd
  exact sh_str _ (h p hp))
theorem sh_strsT {n : Nat} {ps : List Str} (h : ∀ p ∈ ps, PyData.strOk p = true) : sh (n + 1) (.tuple (ps.map PyData.str)) := sh_tup (shA_all fun d hd => by
  obtain ⟨p, hp, rfl⟩ := List.mem_map.mp hd
  exact sh_str _ (h p hp))
theorem drawn.ok {ps : List Str} (h : drawn ps) : ∀ p ∈ ps, PyData.strOk p = true := fun p hp => (part_ok (h.1 p hp)).2.1
end DP
set_option Elab.async false
set_option linter.all false
set_option maxRecDepth 100000
set_option maxHeartbeats 1000000
namespace DP
open PySem L2
section
variable {X : Cx} {P : Program} {w : World} {K : PySem.W.Frag} {mg : Str → Option Value} {base : Heap} {N : List Str} {sc : Scope} {k : Nat} {lv : Bool}
variable {σ : L2.St} {H : Hp} {Q : VK} {o e : Expr} {apos cpos pos : Pos} {tg : Expr} {body : List Stmt} {nx : L2.St → Hp → Prop} {rt : VK} {bk ct : L2.St → Hp → Prop}
theorem m_sindex (C : Kx X P w K mg base N sc k lv) {a b : Str} {n : Nat} (hn : Txt.index0 a b = some n) (h : Q (.int (n : Int)) H) : wM X "str.index" (.str a) [.str b] H Q :=
  ⟨fun pins s σ v us I rx rv => mt_indexX C.calm takes0 pins s σ H _ _ v us Q I rx rv ⟨a, b, rfl, rfl, fun k hk => by rw [hn] at hk; cases hk; exact h, fun hz => by rw [hn] at hz; cases hz⟩⟩
/-- 'text'.index(e) -/
theorem e_sindex (C : Kx X P w K mg base N sc k lv) {z : Str} {j : Nat} {p0 : Pos} (h : wE X e σ H fun y H1 => ∃ b n, y = .str b ∧ Txt.index0 z b = some n ∧ Q (.int (n : Int)) H1)
    (hbase : attributeBase (.Constant (.str z) j p0) "index" X.env (eval (.Constant (.str z) j p0) X.env) = eval (.Constant (.str z) j p0) X.env := by rfl)
    (hfew : ((backTo cpos (starEach [e] X.env)).all (fun x => !x.1) && (backToKw cpos (keywordEach [] X.env)).all (fun x => x.1.isSome)
      && decide ([e].length + ([] : List Keyword).length + (if ([] : List Keyword).isEmpty then 0 else 1) < 30)) = true := by rfl)
    (hline : (apos.endLine == cpos.line) = true := by rfl) (hs : starEach [e] X.env = (false, eval e X.env) :: starEach [] X.env := by rfl) (hplain : (backTo cpos (starEach [] X.env)).any (·.1) = false := by rfl) :
    wE X (.Call (.Attribute (.Constant (.str z) j p0) "index" apos) [e] [] cpos) σ H Q :=
  e_bm PySem.F.plainAttrs_str PySem.F.slot_str_index PySem.F.type_str_index (e_str ⟨rfl, a_cons (wE_mono (fun y H1 ⟨b, n, e1, hn, q⟩ => by subst e1; exact a_nil (m_sindex C hn q)) h) hs⟩) hbase hfew hline hs hplain
/-- over a list or a tuple -/
def SqX (K : PySem.W.Frag) (H : Hp) (a : Addr) (xs : List V) : Prop := SqL K H a xs ∨ SqT K H a xs
theorem s_forLT (C : Kx X P w K mg base N sc k lv) (h : ∃ a xs, ((∀ Q : VK, Q (.ref a) H → wE X e σ H Q) ∧ SqX K H a xs) ∧ ∃ Pv : Nat → L2.St → Hp → Prop, Pv 0 σ H ∧ (∀ i σ' H', Pv i σ' H' → Ex H H') ∧
      (∀ (n : Nat) u σ' H', xs[n]? = some u → Pv n σ' H' → wG X tg u σ' H' fun σ2 H2 => wSs X body (Pv (n + 1)) rt nx (Pv (n + 1)) σ2 H2) ∧ (∀ σ' H', Pv xs.length σ' H' → nx σ' H'))
    (hf : ∀ x, foldedSetIterable e X.env x = pure x := by intro _; rfl) {pos' : Pos} : wS X (.For tg e body [] pos') nx rt bk ct σ H := by
  obtain ⟨a, xs, ⟨he, hq⟩, Pv, h0, hx, hst, hd⟩ := h
  rcases hq with hq | hq
  · exact s_forL C (he _ ⟨a, xs, rfl, Pv, h0, fun i σ' H' q => sql_ex (hx i σ' H' q) hq, hst, hd⟩) hf
  · exact s_forT C (he _ ⟨a, xs, rfl, Pv, h0, fun i σ' H' q => sqt_ex (hx i σ' H' q) hq, hst, hd⟩) hf
end
/-! ### the law's calendar -/
def lawDays (y : Int) : List Int := [31, if isLong y = true then 29 else 28, 31, 30, 31, 30, 31, 31, 30, 31, 30, 31]
theorem lawDays_eq (y : Int) : lawDays y = (List.range 12).map fun (i : Nat) => mlen y (1 + (i : Int)) := by
  show _ = [mlen y (1 + 0), mlen y (1 + 1), mlen y (1 + 2), mlen y (1 + 3), mlen y (1 + 4), mlen y (1 + 5), mlen y (1 + 6), mlen y (1 + 7), mlen y (1 + 8), mlen y (1 + 9), mlen y (1 + 10), mlen y (1 + 11)]
  simp [mlen, lawDays]
def lwd (d : Dt) : Int := (5 + 365 * (d.1 - 1600) + (d.1 - 1600 + 3) / 4 - (d.1 - 1600 + 99) / 100 + (d.1 - 1600 + 399) / 400 + ((lawDays d.1).take (d.2.1 - 1).toNat).sum + d.2.2 - 1) % 7
theorem take_sum {d : Dt} (h : okD d) : ((lawDays d.1).take (d.2.1 - 1).toNat).sum + d.2.2 = piy d := by
  unfold okD at h
  rw [lawDays_eq, ← List.map_take, List.take_range]
  unfold piy
  rw [show min (d.2.1 - 1).toNat 12 = (d.2.1 - 1).toNat by omega]
theorem lwd_eq {d : Dt} (h : okD d) : lwd d = wdIx d := by
  have := take_sum h
  unfold lwd wdIx
  omega
/-- rows: a date and the number of its day -/
def rowsIn (a b : Int) : List (Dt × Int) := (datesIn a b).map fun d => (d, piy d)
def RowV (K : PySem.W.Frag) (H : Hp) (r : Dt × Int) (v : V) : Prop := ∃ ad u, v = .ref ad ∧ SqT K H ad [u, .int r.2] ∧ DateV K H r.1 u
theorem RowV.tk {K : PySem.W.Frag} {H H' : Hp} {r : Dt × Int} {v : V} (e : Tk H H') (h : RowV K H r v) : RowV K H' r v := by
  obtain ⟨ad, u, e1, h1, h2⟩ := h
  exact ⟨ad, u, e1, sqt_tk e h1, h2.tk e⟩
def RowsV (K : PySem.W.Frag) (H : Hp) (rs : List (Dt × Int)) (xs : List V) : Prop := Paired (RowV K H) rs xs
theorem RowsV.tk {K : PySem.W.Frag} {H H' : Hp} {rs : List (Dt × Int)} {xs : List V} (e : Tk H H') (h : RowsV K H rs xs) : RowsV K H' rs xs := Paired.mapP h fun _ _ q => q.tk e
theorem RowsV.len {K : PySem.W.Frag} {H : Hp} {ds : List (Dt × Int)} {xs : List V} (h : RowsV K H ds xs) : xs.length = ds.length := (Paired.length h).symm
def RetRs (K : PySem.W.Frag) (rs : List (Dt × Int)) (H : Hp) (Q : VK) : Prop := ∀ p H' xs, H p = none → Ex H H' → H' p = some (.lst xs) → RowsV K H' rs xs → Q (.ref p) H'
theorem rowsIn_len (a b : Int) (h : isSp a b = true) : (rowsIn a b).length ≤ 4464 := by unfold rowsIn; rw [List.length_map]; exact datesIn_len a b h
theorem mem_rows {a b : Int} (h : isSp a b = true) {r : Dt × Int} (hr : r ∈ rowsIn a b) : isDt r.1 = true ∧ r.2 = piy r.1 ∧ r.1 ∈ datesIn a b := by
  unfold rowsIn at hr
  obtain ⟨d, hd, rfl⟩ := List.mem_map.mp hr
  exact ⟨mem_dates h hd, rfl, hd⟩
/-! ### promises -/
section
variable {K : PySem.W.Frag} {H : Hp} {Q : VK} {E : XK} {v u : V} {a b y : Int} {d : Dt} {ps : List Str}
def sp_ldays : Sp := fun vs H Q _ => ∃ y, vs = [.int y] ∧ ∀ p H', H p = none → Ex H H' → H' p = some (.lst ((lawDays y).map V.int)) → Q (.ref p) H'
theorem u_ldays (q : ∀ p H', H p = none → Ex H H' → H' p = some (.lst ((lawDays y).map V.int)) → Q (.ref p) H') : sp_ldays [.int y] H Q E := ⟨y, rfl, q⟩
def sp_ldates (K : PySem.W.Frag) : Sp := fun vs H Q _ => ∃ v a b, vs = [v] ∧ SpanV K H a b v ∧ isSp a b = true ∧ RetRs K (rowsIn a b) H Q
theorem u_ldates (hd : SpanV K H a b v) (h : isSp a b = true) (q : RetRs K (rowsIn a b) H Q) : sp_ldates K [v] H Q E := ⟨v, a, b, rfl, hd, h, q⟩
def sp_lwd (K : PySem.W.Frag) : Sp := fun vs H Q _ => ∃ v d, vs = [v] ∧ DateV K H d v ∧ okD d ∧ Ret (.int (wdIx d)) H Q
theorem u_lwd (hd : DateV K H d v) (h : okD d) (q : Ret (.int (wdIx d)) H Q) : sp_lwd K [v] H Q E := ⟨v, d, rfl, hd, h, q⟩
/-- a part that the law's writer takes as the program does -/
def okPart (p : Str) : Prop := p ∈ fields ∨ (isField p = false ∧ ∃ c r, p.cps.toList = c :: r ∧ ¬ c ∈ (("DMYJ" : Str)).cps.toList)
def sp_lwrite (K : PySem.W.Frag) : Sp := fun vs H Q _ => ∃ a ps u d, vs = [.ref a, u, .int (piy d)] ∧ SqX K H a (ps.map V.str) ∧ (∀ p ∈ ps, okPart p) ∧ small ps ∧ DateV K H d u ∧ okD d ∧ Ret (.str (wr ps d)) H Q
theorem u_lwrite {ad : Addr} (hq : SqX K H ad (ps.map V.str)) (hp : ∀ p ∈ ps, okPart p) (hs : small ps) (hd : DateV K H d u) (h : okD d) (q : Ret (.str (wr ps d)) H Q) : sp_lwrite K [.ref ad, u, .int (piy d)] H Q E := ⟨ad, ps, u, d, rfl, hq, hp, hs, hd, h, q⟩
end
theorem drawn.part {ps : List Str} (h : drawn ps) : ∀ p ∈ ps, okPart p := fun p hp => by
  rcases h.1 p hp with h | h
  · exact .inl h
  · right
    have e : lits.all (fun p => !isField p && (match p.cps.toList with | c :: _ => decide (¬ c ∈ (("DMYJ" : Str)).cps.toList) | [] => false)) = true := by decide +kernel
    have e2 := all_mem e h
    rw [Bool.and_eq_true] at e2
    refine ⟨by simpa using e2.1, ?_⟩
    have e3 := e2.2
    cases hc : p.cps.toList with
    | nil => rw [hc] at e3; simp at e3
    | cons c r => rw [hc] at e3; exact ⟨c, r, rfl, by simpa using e3⟩
end DP
namespace DP
open PySem L2
theorem join0_list (ys : List Str) : (Txt.join "" ys).cps.toList = ys.flatMap fun y => y.cps.toList := by
  rw [show Txt.join "" ys = Str.join "" ys from PySem.StrLaws.glued_eq_join "" ys]
  induction ys with
  | nil => rfl
  | cons y ys ih =>
    cases ys with
    | nil => show y.cps.toList = _; simp
    | cons z zs =>
      show (y ++ "" ++ Str.join "" (z :: zs)).cps.toList = _
      rw [app_list, app_list, ih]
      simp
      rfl
theorem wr_list (ps : List Str) (d : Dt) : (wr ps d).cps.toList = ps.flatMap fun p => (pc p d).cps.toList := by
  unfold wr
  rw [join0_list, List.flatMap_map]
theorem wr_snoc (ps : List Str) (p : Str) (d : Dt) : wr (ps ++ [p]) d = wr ps d ++ pc p d := by
  apply str_ext
  rw [app_list, wr_list, wr_list, List.flatMap_append]
  simp
theorem wr_nil (d : Dt) : wr [] d = "" := rfl
theorem wr_len {ps : List Str} {d : Dt} (h : okD d) (hs : small ps) : (wr ps d).length ≤ 1004000 := by
  have h1 := sum_len h hs
  have h2 : (wr ps d).length = ((ps.map fun p => pc p d).map (·.length)).sum := by
    show (wr ps d).cps.size = _
    rw [← Array.length_toList, wr_list, List.length_flatMap, List.map_map]
    rfl
  omega
theorem small_take {ps : List Str} (hs : small ps) (n : Nat) : small (ps.take n) := ⟨by rw [List.length_take]; have := hs.1; omega, fun p hp => hs.2 p (List.mem_of_mem_take hp)⟩
theorem mon_cut {m : Int} (h1 : 1 ≤ m) (h2 : m ≤ 12) : cutS "janfebmaraprmayjunjulaugsepoctnovdec" (some (3 * m - 3)) (some (3 * m)) = monName m := by
  have : m = 1 ∨ m = 2 ∨ m = 3 ∨ m = 4 ∨ m = 5 ∨ m = 6 ∨ m = 7 ∨ m = 8 ∨ m = 9 ∨ m = 10 ∨ m = 11 ∨ m = 12 := by omega
  rcases this with rfl | rfl | rfl | rfl | rfl | rfl | rfl | rfl | rfl | rfl | rfl | rfl <;> decide +kernel
theorem wd_cut {i : Int} (h1 : 0 ≤ i) (h2 : i < 7) : cutS "montuewedthufrisatsun" (some (3 * i)) (some (3 * i + 3)) = wdNames.getD i.toNat "" := by
  have : i = 0 ∨ i = 1 ∨ i = 2 ∨ i = 3 ∨ i = 4 ∨ i = 5 ∨ i = 6 := by omega
  rcases this with rfl | rfl | rfl | rfl | rfl | rfl | rfl <;> decide +kernel
theorem app_assoc (a b c : Str) : a ++ b ++ c = a ++ (b ++ c) := by
  apply str_ext
  rw [app_list, app_list, app_list, app_list, List.append_assoc]
theorem mul0_le {n : Int} (h : n ≤ 0) : Txt.mul "0" n = "" := by
  apply str_ext
  rw [mul0_list, show n.toNat = 0 by omega]
  rfl
theorem mulOk0 {n : Int} (h1 : -1000 ≤ n) (h2 : n ≤ 1000) : PySem.MulOk "0" n := by
  refine ⟨by simp; omega, fun h3 _ => ?_, fun h3 _ => ?_⟩
  · have e : ((Str.ofString "0").length : Int) = 1 := by decide +kernel
    rw [e]
    intro h
    have : (2 ^ 63 - 1) / n ≥ 1 := by
      apply Int.le_ediv_of_mul_le
      · omega
      · omega
    omega
  · have e : (Str.ofString "0").length = 1 := by decide +kernel
    rw [e]
    show decide _ = false
    have hz : (1000 : Nat) ≤ sizeLine := by decide
    simp
    omega
/-- the law's digits of a field -/
theorem law_pad {v k k2 : Int} (h0 : 0 ≤ v) (h1 : v ≤ 9999) (hk : k = k2 ∨ (k ≤ 1 ∧ k2 ≤ 1)) (T : Str) : T ++ Txt.mul "0" (k - ((numS v).length : Int)) ++ numS v = T ++ padS v k2 := by
  unfold padS
  rw [← app_assoc]
  rcases hk with rfl | ⟨a, b⟩
  · rfl
  · have := (numS_len h0 h1).1
    rw [mul0_le (by omega), mul0_le (by omega)]
end DP
namespace DP
open PySem L2
theorem log_sm {n : Int} (h0 : 0 ≤ n) (h1 : n ≤ 9999) : n.natAbs.log2 < 1920 := by
  have h : n.natAbs ≤ 9999 := by omega
  by_cases h2 : n.natAbs = 0
  · rw [h2]; decide
  · rw [Nat.log2_lt h2]
    exact Nat.lt_of_le_of_lt h (by decide +kernel)
theorem app_len (a b : Str) : (a ++ b).length = a.length + b.length := by
  show (a ++ b).cps.size = a.cps.size + b.cps.size
  rw [← Array.length_toList, ← Array.length_toList, ← Array.length_toList, app_list, List.length_append]
theorem sz6 {n : Nat} (h : n ≤ 4000000) : n ≤ sizeLine := Nat.le_trans h (by decide)
end DP
set_option Elab.async false
set_option linter.all false
set_option maxRecDepth 100000
set_option maxHeartbeats 1000000
namespace DP
open PySem L2
section
variable {X : Cx} {P : Program} {w : World} {K : PySem.W.Frag} {mg : Str → Option Value} {base : Heap} {N : List Str} {sc : Scope} {k : Nat} {lv : Bool}
variable {σ : L2.St} {H : Hp} {pos p : Pos} {tg elt iter c e e1 e2 : Expr} {scope : Scope} {Q : VK} {α : Type}
variable {i j i2 : Nat} {x y z : Str} {py spos : Pos} {nx : L2.St → Hp → Prop} {rt : VK} {bk ct : L2.St → Hp → Prop}
/-- z = [elt for x, y in iter if c] -/
theorem s_lcf2 {p1 p2 : Pos} {kk : Nat} (C : Kx X P w K mg base N sc k lv) (f : Nat → Bool)
    (h : wI X (.Tuple [.Name x p1, .Name y p2] kk p) iter σ H fun J H1 => Src (fun n Y H1 => ∃ G : Nat → V → Hp → Prop, (∀ i v H H', Tk H H' → G i v H → G i v H') ∧
      (∀ m v H' H2, m < n → Ex H1 H' → Y m H' v H2 → ∃ a v1 v2, v = .ref a ∧ SqT K H2 a [v1, v2] ∧ ∀ X', Kx X' P w K mg base N (relS scope sc) k false → wT X' c ((σ.set i (some v1)).set j (some v2)) H2 fun b H4 => Ex H' H4 ∧ b = f m ∧ (b = true → ∀ X', Kx X' P w K mg base N (relS scope sc) k false → wE X' elt ((σ.set i (some v1)).set j (some v2)) H4 fun y H5 => Ex H4 H5 ∧ G m y H5)) ∧ NewL n f G H1 (fun v H' => nx (σ.set i2 (some v)) H')) J H1)
    (hN : N[i]? = some x := by rfl) (hN2 : N[j]? = some y := by rfl) (hN3 : N[i2]? = some z := by rfl) (hz : sc.names.lookup z = some .local := by rfl) (hl : (py.line == pos.line) = true := by rfl) (ha : (scope.names.any fun (n, k) => n == z && (k == .local || k == .cell)) = false := by decide +kernel) (hij : i ≠ j := by decide) (hx : Sto (relS scope sc) false x := by first | exact Or.inl rfl | exact Or.inr ⟨rfl, rfl⟩) (hy : Sto (relS scope sc) false y := by first | exact Or.inl rfl | exact Or.inr ⟨rfl, rfl⟩) (ok : blkC N sc scope [(x, i), (y, j)] = true := by decide +kernel) (hs : ∀ x, foldedSetIterable iter X.env x = pure x := by intro _; rfl) :
    wS X (.Assign [.Name z py] (.ListComp elt [⟨.Tuple [.Name x p1, .Name y p2] kk p, iter, [c], 0⟩] scope pos) spos) nx rt bk ct σ H :=
  goS (lc_readsS C (Nat.le_refl _) _ (pgT2 hN hN2 hx hy) ok hN3 hz hl ha hs) (lc_core2 C hij (Nat.le_refl _) f (wI_mono (fun J H1 q => by
    obtain ⟨n, Gd, Y, wk, hn, hG, G, st, hs, hd⟩ := q
    exact ⟨n, Gd, Y, wk, hn, hG, G, st, fun m v H' H2 hm hx hy => by
      obtain ⟨a, v1, v2, ev, hq, q⟩ := hs m v H' H2 hm hx hy
      exact ⟨a, v1, v2, ev, hq, q⟩, hd⟩) h))
theorem s_lc2 {p1 p2 : Pos} {kk : Nat} (C : Kx X P w K mg base N sc k lv)
    (h : wI X (.Tuple [.Name x p1, .Name y p2] kk p) iter σ H fun J H1 => Src (fun n Y H1 => ∃ G : Nat → V → Hp → Prop, (∀ i v H H', Tk H H' → G i v H → G i v H') ∧
      (∀ m v H' H2, m < n → Ex H1 H' → Y m H' v H2 → ∃ a v1 v2, v = .ref a ∧ SqT K H2 a [v1, v2] ∧ Ex H' H2 ∧ ∀ X', Kx X' P w K mg base N (relS scope sc) k false → wE X' elt ((σ.set i (some v1)).set j (some v2)) H2 fun y H5 => Ex H2 H5 ∧ G m y H5) ∧ NewL n (fun _ => true) G H1 (fun v H' => nx (σ.set i2 (some v)) H')) J H1)
    (hN : N[i]? = some x := by rfl) (hN2 : N[j]? = some y := by rfl) (hN3 : N[i2]? = some z := by rfl) (hz : sc.names.lookup z = some .local := by rfl) (hl : (py.line == pos.line) = true := by rfl) (ha : (scope.names.any fun (n, k) => n == z && (k == .local || k == .cell)) = false := by decide +kernel) (hij : i ≠ j := by decide) (hx : Sto (relS scope sc) false x := by first | exact Or.inl rfl | exact Or.inr ⟨rfl, rfl⟩) (hy : Sto (relS scope sc) false y := by first | exact Or.inl rfl | exact Or.inr ⟨rfl, rfl⟩) (ok : blkC N sc scope [(x, i), (y, j)] = true := by decide +kernel) (hs : ∀ x, foldedSetIterable iter X.env x = pure x := by intro _; rfl) :
    wS X (.Assign [.Name z py] (.ListComp elt [⟨.Tuple [.Name x p1, .Name y p2] kk p, iter, [], 0⟩] scope pos) spos) nx rt bk ct σ H :=
  goS (lc_readsS C (Nat.zero_le _) _ (pgT2 hN hN2 hx hy) ok hN3 hz hl ha hs) (lc_core2 C hij (Nat.zero_le _) (fun _ => true) (wI_mono (fun J H1 q => by
    obtain ⟨n, Gd, Y, wk, hn, hG, G, st, hs, hd⟩ := q
    exact ⟨n, Gd, Y, wk, hn, hG, G, st, fun m v H' H2 hm hx hy => by
      obtain ⟨a, v1, v2, ev, hq, ex, q⟩ := hs m v H' H2 hm hx hy
      exact ⟨a, v1, v2, ev, hq, ex, rfl, fun _ => q⟩, hd⟩) h))
theorem s_lcF2G {p1 p2 : Pos} {kk : Nat} (C : Kx X P w K mg base N sc k lv) (f : α → Bool) (l : List α) (G : α → V → Hp → Prop) (st : ∀ z v H H', Tk H H' → G z v H → G z v H') (hl : l.length ≤ 1000000)
    (h : wI X (.Tuple [.Name x p1, .Name y p2] kk p) iter σ H (SrcQ K (LcFB2 P w K mg base N (relS scope sc) k elt c f (fun v1 v2 => (σ.set i (some v1)).set j (some v2)) l G (fun v H' => nx (σ.set i2 (some v)) H'))))
    (hN : N[i]? = some x := by rfl) (hN2 : N[j]? = some y := by rfl) (hN3 : N[i2]? = some z := by rfl) (hz : sc.names.lookup z = some .local := by rfl) (hl' : (py.line == pos.line) = true := by rfl) (ha : (scope.names.any fun (n, k) => n == z && (k == .local || k == .cell)) = false := by decide +kernel) (hij : i ≠ j := by decide) (hx : Sto (relS scope sc) false x := by first | exact Or.inl rfl | exact Or.inr ⟨rfl, rfl⟩) (hy : Sto (relS scope sc) false y := by first | exact Or.inl rfl | exact Or.inr ⟨rfl, rfl⟩) (ok : blkC N sc scope [(x, i), (y, j)] = true := by decide +kernel) (hs : ∀ x, foldedSetIterable iter X.env x = pure x := by intro _; rfl) :
    wS X (.Assign [.Name z py] (.ListComp elt [⟨.Tuple [.Name x p1, .Name y p2] kk p, iter, [c], 0⟩] scope pos) spos) nx rt bk ct σ H := by
  refine s_lcf2 (i := i) (j := j) (i2 := i2) C (fAt l f) (wI_mono (fun J H1 q => ?_) h) hN hN2 hN3 hz hl' ha hij hx hy ok hs
  obtain ⟨vals, Gd, Y, wk, hG, hY, R, hp, hb, hd⟩ := q
  have hlen := Paired.length hp
  refine ⟨vals.length, Gd, Y, wk, by omega, hG, fun m y H => ∃ z, l[m]? = some z ∧ G z y H, fun m v H H' e ⟨z, h1, h2⟩ => ⟨z, h1, st _ _ _ _ e h2⟩, fun m v H' H2 hm hx hy => ?_, fun D ys H' nD hx hD hp' => hd D ys H' nD hx hD ?_⟩
  · obtain ⟨ex, a, v1, v2, e1, hq, hu⟩ := hY m v H' H2 hm hx hy
    obtain ⟨z, h1, h2⟩ := paired_ix' hp hu
    refine ⟨a, v1, v2, e1, hq, fun X' C' => wT_mono (fun b H4 q => ⟨Ex.trans ex q.1, ?_, fun hb X'' C'' => wE_mono (fun y H5 q => ⟨q.1, z, h1, q.2⟩) (q.2.2 ?_ X'' C'')⟩) (hb z v1 v2 (List.mem_of_getElem? h1) h2 _ (Ex.trans hx ex) X' C')⟩
    · rw [fAt_some h1]; exact q.2.1
    · rw [← q.2.1]; exact hb
  · rw [← hlen] at hp'
    exact paired_atF hp'
theorem s_lc2G {p1 p2 : Pos} {kk : Nat} (C : Kx X P w K mg base N sc k lv) (l : List α) (G : α → V → Hp → Prop) (st : ∀ z v H H', Tk H H' → G z v H → G z v H') (hl : l.length ≤ 1000000)
    (h : wI X (.Tuple [.Name x p1, .Name y p2] kk p) iter σ H (SrcQ K (LcB2 P w K mg base N (relS scope sc) k elt (fun v1 v2 => (σ.set i (some v1)).set j (some v2)) l G (fun v H' => nx (σ.set i2 (some v)) H'))))
    (hN : N[i]? = some x := by rfl) (hN2 : N[j]? = some y := by rfl) (hN3 : N[i2]? = some z := by rfl) (hz : sc.names.lookup z = some .local := by rfl) (hl' : (py.line == pos.line) = true := by rfl) (ha : (scope.names.any fun (n, k) => n == z && (k == .local || k == .cell)) = false := by decide +kernel) (hij : i ≠ j := by decide) (hx : Sto (relS scope sc) false x := by first | exact Or.inl rfl | exact Or.inr ⟨rfl, rfl⟩) (hy : Sto (relS scope sc) false y := by first | exact Or.inl rfl | exact Or.inr ⟨rfl, rfl⟩) (ok : blkC N sc scope [(x, i), (y, j)] = true := by decide +kernel) (hs : ∀ x, foldedSetIterable iter X.env x = pure x := by intro _; rfl) :
    wS X (.Assign [.Name z py] (.ListComp elt [⟨.Tuple [.Name x p1, .Name y p2] kk p, iter, [], 0⟩] scope pos) spos) nx rt bk ct σ H := by
  refine s_lc2 (i := i) (j := j) (i2 := i2) C (wI_mono (fun J H1 q => ?_) h) hN hN2 hN3 hz hl' ha hij hx hy ok hs
  obtain ⟨vals, Gd, Y, wk, hG, hY, R, hp, hb, hd⟩ := q
  have hlen := Paired.length hp
  refine ⟨vals.length, Gd, Y, wk, by omega, hG, fun m y H => ∃ z, l[m]? = some z ∧ G z y H, fun m v H H' e ⟨z, h1, h2⟩ => ⟨z, h1, st _ _ _ _ e h2⟩, fun m v H' H2 hm hx hy => ?_, fun D ys H' nD hx hD hp' => hd D ys H' nD hx hD ?_⟩
  · obtain ⟨ex, a, v1, v2, e1, hq, hu⟩ := hY m v H' H2 hm hx hy
    obtain ⟨z, h1, h2⟩ := paired_ix' hp hu
    exact ⟨a, v1, v2, e1, hq, ex, fun X' C' => wE_mono (fun y H5 q => ⟨q.1, z, h1, q.2⟩) (hb z v1 v2 (List.mem_of_getElem? h1) h2 _ (Ex.trans hx ex) X' C')⟩
  · rw [← hlen] at hp'
    exact paired_atT hp'
theorem Kx.u65 (C : Kx X P w K mg base N sc k lv) : X.A.units + 65 < cLine := by have := C.room.un; omega
theorem o_inD (C : Kx X P w K mg base N sc k lv) {v u : V} {d : PyData} {ds : List PyData} (hd : Dp K H v d) (he : Dp K H u (.list ds)) (sd : SeqAt.shaped d = true) (se : SeqAt.shaped (.list ds) = true) (h : Q (.bl (ds.any fun z => PyData.eqv z d)) H) : wOp X (compareOp .In) v u H Q := by
  have e3 := C.eK; subst e3
  exact goOp (op_inD C.u65) ⟨d, ds, hd, he, sd, se, h⟩
theorem o_ninD (C : Kx X P w K mg base N sc k lv) {v u : V} {d : PyData} {ds : List PyData} (hd : Dp K H v d) (he : Dp K H u (.list ds)) (sd : SeqAt.shaped d = true) (se : SeqAt.shaped (.list ds) = true) (h : Q (.bl (!ds.any fun z => PyData.eqv z d)) H) : wOp X (compareOp .NotIn) v u H Q := by
  have e3 := C.eK; subst e3
  exact goOp (op_notInD C.u65) ⟨d, ds, hd, he, sd, se, h⟩
end
section
variable {X : Cx} {P : Program} {w : World} {K : PySem.W.Frag} {mg : Str → Option Value} {base : Heap} {N : List Str} {sc : Scope} {k : Nat} {lv : Bool}
variable {σ : L2.St} {H : Hp} {pos px py pz pt pt2 : Pos} {a b c : Expr} {i j l kt k2 : Nat} {x y z : Str} {nx : L2.St → Hp → Prop} {rt : VK} {bk ct : L2.St → Hp → Prop}
/-- x, y = a, b -/
theorem s_par2 (C : Kx X P w K mg base N sc k lv) (h : wA X [a, b] σ H fun vs H1 => ∃ v u, vs = [v, u] ∧ nx ((σ.set i (some v)).set j (some u)) H1)
    (hi : N[i]? = some x := by rfl) (hj : N[j]? = some y := by rfl) (hij : i ≠ j := by decide) (hx : sc.names.lookup x = some .local := by rfl) (hy : sc.names.lookup y = some .local := by rfl)
    (hw : ∀ env : Env, env.scope = sc → swappedStores [.Tuple [.Name x px, .Name y py] kt pt] (.Tuple [a, b] k2 pt2) env = pure (some [x, y]) := by intro env h; cases env; cases h; rfl)
    (hs : swapsWithSole [.Tuple [.Name x px, .Name y py] kt pt] (.Tuple [a, b] k2 pt2) pos.line X.env = pure false := by rfl) :
    wS X (.Assign [.Tuple [.Name x px, .Name y py] kt pt] (.Tuple [a, b] k2 pt2) pos) nx rt bk ct σ H :=
  goS (ps_par C.calm C.ndX (C.at hi) (C.at hj) hij (by rw [C.esc]; exact hx) (by rw [C.esc]; exact hy) paW (hw _ C.esc) hs) h
theorem s_par3 (C : Kx X P w K mg base N sc k lv) (h : wA X [a, b, c] σ H fun vs H1 => ∃ v u o, vs = [v, u, o] ∧ nx (((σ.set i (some v)).set j (some u)).set l (some o)) H1)
    (hi : N[i]? = some x := by rfl) (hj : N[j]? = some y := by rfl) (hl : N[l]? = some z := by rfl) (hij : i ≠ j := by decide) (hil : i ≠ l := by decide) (hjl : j ≠ l := by decide) (hx : sc.names.lookup x = some .local := by rfl) (hy : sc.names.lookup y = some .local := by rfl) (hz : sc.names.lookup z = some .local := by rfl)
    (hw : ∀ env : Env, env.scope = sc → swappedStores [.Tuple [.Name x px, .Name y py, .Name z pz] kt pt] (.Tuple [a, b, c] k2 pt2) env = pure (some [x, y, z]) := by intro env h; cases env; cases h; rfl)
    (hs : swapsWithSole [.Tuple [.Name x px, .Name y py, .Name z pz] kt pt] (.Tuple [a, b, c] k2 pt2) pos.line X.env = pure false := by rfl) :
    wS X (.Assign [.Tuple [.Name x px, .Name y py, .Name z pz] kt pt] (.Tuple [a, b, c] k2 pt2) pos) nx rt bk ct σ H :=
  goS (ps_par3 C.calm C.ndX (C.at hi) (C.at hj) (C.at hl) hij hil hjl (by rw [C.esc]; exact hx) (by rw [C.esc]; exact hy) (by rw [C.esc]; exact hz) paW (hw _ C.esc) hs) h
end
section
variable {X : Cx} {P : Program} {w : World} {K : PySem.W.Frag} {mg : Str → Option Value} {base : Heap} {N : List Str} {sc : Scope} {k : Nat} {lv : Bool}
variable {σ : L2.St} {H : Hp} {pos : Pos} {e tg : Expr} {nx : L2.St → Hp → Prop} {rt : VK} {bk ct : L2.St → Hp → Prop}
/-- a target of names, one of them a cell -/
theorem s_asgT (C : Kx X P w K mg base N sc k lv) (h : wE X e σ H fun x H1 => wG X tg x σ H1 nx) (hw : ∀ env : Env, env.scope = sc → swappedStores [tg] e env = pure none := by intro env h; cases env; cases h; rfl) (hs : swapsWithSole [tg] e pos.line X.env = pure false := by rfl) (h1 : (assignEach [tg] X.env).map (·.2) = [assign tg X.env] := by rfl) :
    wS X (.Assign [tg] e pos) nx rt bk ct σ H := s_asg h hs (hw _ C.esc) h1
end
/-! ### data -/
theorem dD_inj {d e : Dt} (h : dD d = dD e) : d = e := by
  obtain ⟨a, b, c⟩ := d
  obtain ⟨x, y, z⟩ := e
  unfold dD at h
  injection h with h
  injection h with h1 h2
  injection h2 with h2 h3
  injection h3 with h3 h4
  injection h1 with h1
  injection h2 with h2
  injection h3 with h3
  dsimp only at h1 h2 h3
  subst h1 h2 h3
  rfl
theorem map_inj {α β : Type} {f : α → β} (hf : ∀ {a b}, f a = f b → a = b) : ∀ {l r : List α}, l.map f = r.map f → l = r
  | [], [], _ => rfl
  | [], _ :: _, h => by simp at h
  | _ :: _, [], h => by simp at h
  | a :: l, b :: r, h => by
    rw [List.map_cons, List.map_cons] at h
    injection h with h1 h2
    rw [hf h1, map_inj hf h2]
theorem eqv_dec {d e : PyData} (h1 : clean d = true) (h2 : clean e = true) {p : Prop} [Decidable p] (h : d = e ↔ p) : PyData.eqv d e = decide p := by
  have := eqv_iff d e h1 h2
  by_cases hp : p
  · rw [decide_eq_true hp]; exact this.mpr (h.mpr hp)
  · rw [decide_eq_false hp]
    cases hz : PyData.eqv d e with
    | true => exact absurd (h.mp (this.mp hz)) hp
    | false => rfl
theorem eqv_dD (d e : Dt) : PyData.eqv (dD d) (dD e) = decide (d = e) := eqv_dec rfl rfl ⟨dD_inj, fun h => by rw [h]⟩
theorem eqv_dDs (ds es : List Dt) : PyData.eqv (.list (ds.map dD)) (.list (es.map dD)) = decide (ds = es) :=
  eqv_dec (by simp [clean, cleanA_map clean_dD]) (by simp [clean, cleanA_map clean_dD]) ⟨fun h => by injection h with h; exact map_inj dD_inj h, fun h => by rw [h]⟩
theorem any_dD (ds : List Dt) (d : Dt) : ((ds.map dD).any fun z => PyData.eqv z (dD d)) = decide (d ∈ ds) := by
  induction ds with
  | nil => rfl
  | cons e ds ih =>
    rw [List.map_cons, List.any_cons, ih, eqv_dD]
    by_cases h : e = d
    · subst h; simp
    · have h' : ¬ d = e := fun z => h z.symm
      simp [h, h']
theorem sh_dDs (n : Nat) (ds : List Dt) : sh (n + 2) (.list (ds.map dD)) := sh_list (shA_map fun d => sh_dD n d)
section
variable {K : PySem.W.Frag} {H : Hp}
theorem dp_dates {ds : List Dt} {xs : List V} {p : Addr} (hp : SqL K H p xs) (h : DatesV K H ds xs) : Dp K H (.ref p) (.list (ds.map dD)) := .lst hp (dpA_dates h)
end
/-! ### what may be read at the end of a text -/
theorem dig_codes {n : Int} (h0 : 0 ≤ n) {c : Nat} (hc : c ∈ (numS n).cps.toList) : 48 ≤ c ∧ c ≤ 57 := by
  have e : n = ((n.toNat : Nat) : Int) := by omega
  have h : (numS n).cps.toList = (Nat.toDigits 10 n.toNat).map Char.toNat := by
    unfold numS
    rw [e]
    exact PySem.W.KIN.signs_num n.toNat
  rw [h] at hc
  obtain ⟨z, hz, rfl⟩ := List.mem_map.mp hc
  have := Nat.isDigit_of_mem_toDigits (by decide) (by decide) hz
  simp only [Char.isDigit, Bool.and_eq_true, decide_eq_true_eq] at this
  have h1 : (48 : UInt32).toNat ≤ z.val.toNat := this.1
  have h2 : z.val.toNat ≤ (57 : UInt32).toNat := this.2
  exact ⟨h1, h2⟩
theorem pad_codes {n k : Int} (h0 : 0 ≤ n) {c : Nat} (hc : c ∈ (padS n k).cps.toList) : 48 ≤ c ∧ c ≤ 57 := by
  unfold padS at hc
  rw [app_list, List.mem_append, mul0_list] at hc
  rcases hc with hc | hc
  · have := List.eq_of_mem_replicate hc
    omega
  · exact dig_codes h0 hc
theorem pad_ne {n k : Int} (h0 : 0 ≤ n) (h1 : n ≤ 9999) : (padS n k).cps.toList ≠ [] := by
  unfold padS
  rw [app_list]
  have := (numS_len h0 h1).1
  intro h
  have h2 := (List.append_eq_nil_iff.mp h).2
  have h3 : (numS n).cps.size = 0 := by rw [← Array.length_toList, h2]; rfl
  have h4 : (numS n).length = 0 := h3
  omega
theorem getD_mem {l : List Str} {n : Nat} (h : n < l.length) : l.getD n "" ∈ l := by
  rw [List.getD_eq_getElem?_getD, List.getElem?_eq_getElem h]
  exact List.getElem_mem h
theorem mon_mem {d : Dt} (h : okD d) : monName d.2.1 ∈ monNames := by
  unfold okD at h
  refine getD_mem ?_
  show _ < 12
  omega
theorem wd_mem (d : Dt) : wdName d ∈ wdNames := by
  have := wdIx_bd d
  refine getD_mem ?_
  show _ < 7
  omega
/-- what a piece is made of -/
theorem pc_kind {p : Str} {d : Dt} (h : okD d) (hp : p ∈ fields ∨ p ∈ lits) : (pc p d ∈ monNames ∨ pc p d ∈ wdNames ∨ pc p d ∈ lits) ∨ ∃ n k : Int, 0 ≤ n ∧ n ≤ 9999 ∧ pc p d = padS n k := by
  have hiv := ival_bd (p := p) h
  unfold pc
  split
  · split
    · left
      unfold sval
      split
      · exact .inl (mon_mem h)
      · exact .inr (.inl (wd_mem d))
    · right
      exact ⟨_, _, hiv.1, hiv.2, rfl⟩
  · rename_i hf
    rcases hp with hp | hp
    · exact absurd (isIn_iff.mpr hp) hf
    · exact .inl (.inr (.inr hp))
theorem pc_nox {p : Str} {d : Dt} (h : okD d) (hp : p ∈ fields ∨ p ∈ lits) : ¬ 120 ∈ (pc p d).cps.toList := by
  rcases pc_kind h hp with hk | ⟨n, k, h0, _, e⟩
  · have : (monNames ++ (wdNames ++ lits)).all (fun q => decide (¬ 120 ∈ q.cps.toList)) = true := by decide +kernel
    have := all_mem this (p := pc p d) (by rw [List.mem_append, List.mem_append]; exact hk)
    simpa using this
  · rw [e]
    intro hc
    have := pad_codes h0 hc
    omega
theorem pc_ne {p : Str} {d : Dt} (h : okD d) (hp : p ∈ fields ∨ p ∈ lits) : (pc p d).cps.toList ≠ [] := by
  rcases pc_kind h hp with hk | ⟨n, k, h0, h1, e⟩
  · have : (monNames ++ (wdNames ++ lits)).all (fun q => decide (q.cps.toList ≠ [])) = true := by decide +kernel
    have := all_mem this (p := pc p d) (by rw [List.mem_append, List.mem_append]; exact hk)
    simpa using this
  · rw [e]
    exact pad_ne h0 h1
theorem wr_nox {ps : List Str} {d : Dt} (h : okD d) (hp : ∀ p ∈ ps, p ∈ fields ∨ p ∈ lits) : ¬ 120 ∈ (wr ps d).cps.toList := by
  rw [wr_list]
  intro hc
  obtain ⟨p, hp1, hp2⟩ := List.mem_flatMap.mp hc
  exact pc_nox h (hp p hp1) hp2
theorem wr_ne {ps : List Str} {d : Dt} (h : okD d) (hp : ∀ p ∈ ps, p ∈ fields ∨ p ∈ lits) (hl : 1 ≤ ps.length) : (wr ps d).cps.toList ≠ [] := by
  rw [wr_list]
  cases ps with
  | nil => simp at hl
  | cons p ps =>
    intro he
    rw [List.flatMap_cons] at he
    exact pc_ne h (hp p (List.mem_cons_self ..)) (List.append_eq_nil_iff.mp he).1
theorem reads_x {ps : List Str} {a b : Int} (hs : isSp a b = true) (hp : ∀ p ∈ ps, p ∈ fields ∨ p ∈ lits) {t : Str} : reads ps a b (t ++ "x") = [] := by
  unfold reads
  rw [List.filter_eq_nil_iff]
  intro d hd
  have hok := okD_of (mem_dates hs hd)
  intro he
  have he := of_decide_eq_true he
  apply wr_nox hok hp
  rw [he, app_list]
  exact List.mem_append_right _ (by decide +kernel)
theorem reads_0 {ps : List Str} {a b : Int} (hs : isSp a b = true) (hp : ∀ p ∈ ps, p ∈ fields ∨ p ∈ lits) (hl : 1 ≤ ps.length) : reads ps a b "" = [] := by
  unfold reads
  rw [List.filter_eq_nil_iff]
  intro d hd
  have hok := okD_of (mem_dates hs hd)
  intro he
  have he := of_decide_eq_true he
  apply wr_ne hok hp hl
  rw [he]
  rfl
/-! ### the law's promise -/
def sp_law (K : PySem.W.Frag) : Sp := fun vs H Q _ => ∃ (a : Addr) (ns : List Int), vs = [.ref a] ∧ Fz K H a (ns.map V.int) ∧ ns.length ≤ 63 ∧ ∀ H', Q (.bl true) H'
theorem rows_pos {y0 y1 : Int} (h : isSp y0 y1 = true) : 0 < (rowsIn y0 y1).length := by
  have hb := isSp_b h
  have h2 : y0 ≤ y1 := by simp [isSp, isCnt] at h; omega
  unfold rowsIn
  rw [List.length_map]
  have : (y0, 1, 1) ∈ datesIn y0 y1 := by
    unfold datesIn
    rw [List.mem_flatMap]
    refine ⟨0, by rw [List.mem_range]; omega, ?_⟩
    unfold yearDays
    rw [List.mem_flatMap]
    refine ⟨0, by rw [List.mem_range]; omega, ?_⟩
    unfold monthDays
    rw [List.mem_map]
    have := mlen_bd (y0 + ((0 : Nat) : Int)) (1 + ((0 : Nat) : Int))
    exact ⟨0, by rw [List.mem_range]; omega, by simp⟩
  exact List.length_pos_of_mem this
theorem law0_of {K : PySem.W.Frag} {H : Hp} {a t : Addr} {ns : List Int} (h : Fz K H a (ns.map V.int)) (hl : ns.length ≤ 63) (nt : H t = none) : Law0 K (upd H t (.lst [.int 0, .int 0])) a t ns :=
  ⟨h.tk (Tk.of (Ex.new nt)), hl, 0, 0, upd_same, Int.le_refl _⟩
theorem iteNT {b : Bool} {A B : Prop} (hc : b = true) (h : B) : if (!decide (b = true)) = true then A else B := by
  subst hc; exact h
theorem paired_mapF {α β γ : Type} {F : β → γ → Prop} {g : α → β} {l : List α} {r : List γ} (h : Paired (fun a c => F (g a) c) l r) : Paired F (l.map g) r := by
  induction h with
  | nil => exact .nil
  | cons q t ih => exact .cons q ih
theorem rows_vals {K : PySem.W.Frag} {H : Hp} {rs : List (Dt × Int)} {xs : List V} (h : RowsV K H rs xs) : ∃ vals : List (V × V), Paired (fun (u : V × V) x => ∃ a, x = .ref a ∧ SqT K H a [u.1, u.2]) vals xs ∧ Paired (fun (r : Dt × Int) (u : V × V) => DateV K H r.1 u.1 ∧ u.2 = .int r.2) rs vals := by
  induction h with
  | nil => exact ⟨[], .nil, .nil⟩
  | cons q t ih =>
    obtain ⟨vals, h1, h2⟩ := ih
    obtain ⟨ad, u, e1, e2, e3⟩ := q
    exact ⟨(u, .int _) :: vals, .cons ⟨ad, e1, e2⟩ h1, .cons ⟨e3, rfl⟩ h2⟩
theorem rows_reads (ps : List Str) (a b : Int) (t : Str) : ((rowsIn a b).filter fun r => decide (wr ps r.1 = t)).map (·.1) = reads ps a b t := by
  unfold rowsIn reads
  induction datesIn a b with
  | nil => rfl
  | cons d ds ih =>
    rw [List.map_cons, List.filter_cons, List.filter_cons]
    by_cases h : wr ps d = t
    · simp only [h, decide_true, if_true, List.map_cons, ih]
    · simp only [h, decide_false]
      exact ih
theorem rows_dates (a b : Int) : (rowsIn a b).map (·.1) = datesIn a b := by
  unfold rowsIn
  rw [List.map_map]
  exact List.map_id'' (fun _ => rfl) _
theorem u_lwV {K : PySem.W.Frag} {H : Hp} {Q : VK} {E : XK} {ps : List Str} {v u : V} {d : Dt} (hp : StrsV K H ps v) (ho : ∀ p ∈ ps, okPart p) (hs : small ps) (hd : DateV K H d u) (h : okD d) (q : Ret (.str (wr ps d)) H Q) : sp_lwrite K [v, u, .int (piy d)] H Q E := by
  obtain ⟨a, rfl, hq⟩ := hp
  exact u_lwrite (.inr hq) ho hs hd h q
/-- THE RULE for the law itself -/
theorem fok_of {P : Program} {w : World} {K : PySem.W.Frag} {mg : Str → Option Value} {base : Heap} {k : Nat} {x : Str} {st : Stmt} {f : Addr} {fd : FuncData} {ps : List Str} {sp : Sp} (N : List Str) (F : Def K mg x st f fd) (S : FnScope N ps (defScope st)) (len : ∀ vs H Q E, sp vs H Q E → vs.length = ps.length)
    (hbody : ∀ (X : Cx) (H : Hp) (vs : List V) (Q : VK) (E : XK), Kx X P w K mg base N (defScope st) k true → sp vs H Q E →
      wSs X (defBody st) (fun _ H' => Q .non H') Q (fun _ _ => False) (fun _ _ => False) (start N vs) H) : FnOk P w K mg base CX0 (k + 1) f fd ps sp := by
  refine F.fn.ok S len fun cdv A outer s H vs Q E hr hsp => ⟨_, pssW, ?_⟩
  exact hbody _ H vs Q E ⟨rfl, rfl, rfl, rfl, rfl, rfl, rfl, S.nd, S.kind, rfl, hr, PassesOwn.never, fun _ _ => rfl⟩ hsp
end DP
set_option Elab.async false
set_option linter.all false
set_option maxRecDepth 100000
set_option maxHeartbeats 1000000
namespace DP
open PySem L2 PyProof.Rows PySem.SeqAt
/-! ### a pair, the other way round -/
section
variable {prog : Program} {w : World} {A : Around} {E : Value → Shared → Prop} {s : Shared}
theorem sliceRev {sl : Addr} {vl vu vs : Value} {n : Nat} {Q : Int × Int × Nat → Shared → Prop} (hs : s.heap.IsSliceOf sl vl vu vs) (pl : IsPart vl none) (pu : IsPart vu none) (ps : IsPart vs (some (-1)))
    (h : Q ((Builtin.Slice.sliceAdjust none none (-1) (n : Int)).1, -1, Builtin.Slice.slicePlaces (Builtin.Slice.sliceAdjust none none (-1) (n : Int)).1 (Builtin.Slice.sliceAdjust none none (-1) (n : Int)).2 (-1)) s) : wpAny (model prog w) A (Builtin.Slice.sliceApplied (.ref sl) (pure (n : Int))) Q E s := by
  obtain ⟨os, hos, hcs, hds⟩ := id hs
  unfold Builtin.Slice.sliceApplied Builtin.Slice.sliceFields
  refine wpAny_bind (wpAny_bind (wpAny_field hos hds (x := vl) rfl (wpAny_bind (wpAny_field hos hds (x := vu) rfl (wpAny_bind (wpAny_field hos hds (x := vs) rfl (wpAny_pure ?_)))))))
  refine wpAny_bind (HT.slicePart_ ps ?_)
  show wpAny _ _ (if ((-1 : Int) == 0) = true then _ else _) _ _ s
  rw [if_neg (by decide)]
  refine wpAny_bind (HT.slicePart_ pl (wpAny_bind (HT.slicePart_ pu (wpAny_bind (wpAny_pure ?_)))))
  exact wpAny_pure h
theorem getItem_rev2 {t sl : Addr} {a b vl vu vs : Value} {Q : Value → Shared → Prop} (ht : IsTup s.heap t #[a, b]) (hs : s.heap.IsSliceOf sl vl vu vs) (pl : IsPart vl none) (pu : IsPart vu none) (ps : IsPart vs (some (-1)))
    (h : Q (.ref s.heap.objs.size) { s with heap := s.heap.push { cls := .type "tuple", data := .seq #[b, a] } }) : wpAny (model prog w) A (getItem (.ref t) (.ref sl)) Q E s := by
  obtain ⟨os, hos, hcs, hds⟩ := id hs
  have hTs : s.TypeIs (.ref sl) "slice" := ⟨os, hos, hcs⟩
  unfold getItem
  try with_reducible refine wpAny_holding ?_
  first | refine wpAny_bind (wpAny_pure ?_) | skip
  refine wpAny_bind (wpAny_sequenceKey ht.typeIs (by decide) ?_)
  refine wpAny_bind (wpAny_callSpecial?_slot (name := Str.ofString "__getitem__") ht.typeIs PyProof.Rows.slot_tuple_getitem
    (wpAny_call_entry PyProof.Rows.slot_tuple_getitem ht.typeIs entry_tuple_getitem ?_ (args_tuple_getitem _ _)))
  show wpAny _ _ (Builtin.Tuple.tupleItemsOf (.ref t) >>= _) _ _ s
  refine wpAny_bind (tupleItemsOf_ ht ?_)
  refine wpAny_bind (wpAny_typeOf hTs ?_)
  rw [if_pos (by decide)]
  refine wpAny_bind (sliceRev hs pl pu ps ?_)
  have hz : sizeOk (.seq #[b, a]) := by show 2 ≤ sizeLine; decide
  show wpAny _ _ (if (((Builtin.Slice.sliceAdjust none none (-1) (2 : Int)).1 == 0 && (-1 : Int) == 1 && _ == _) = true) then _ else _) _ _ s
  rw [if_neg (by intro q; rw [Bool.and_eq_true, Bool.and_eq_true] at q; exact absurd q.1.2 (by decide))]
  have e1 : Builtin.Slice.sliceAdjust none none (-1) ((#[a, b] : Array Value).size : Int) = (1, -1) := by show Builtin.Slice.sliceAdjust none none (-1) (2 : Int) = (1, -1); decide
  rw [e1]
  have e2 : Builtin.Slice.slicePlaces ((1 : Int), (-1 : Int)).1 ((1 : Int), (-1 : Int)).2 (-1) = 2 := by decide
  rw [e2]
  show wpAny (model prog w) A.in1 (Builtin.Tuple.tupleExact #[b, a] >>= fun x => ret x) _ _ s
  first
    | exact wpAny_bind (m := Builtin.Tuple.tupleExact _) (wpAny_newObj_type (wpAny_pure ⟨_, rfl, wpAny_pure h⟩) hz)
    | exact wpAny_bind (m := Builtin.Tuple.tupleExact _) (wpAny_newObj_type (wpAny_bind (wpAny_pure (wpAny_pure ⟨_, rfl, wpAny_pure h⟩))) hz)
    | exact wpAny_bind (wpAny_bind (m := Builtin.Tuple.tupleExact _) (wpAny_newObj_type (wpAny_pure (wpAny_pure ⟨_, rfl, wpAny_pure h⟩)) hz))
    | exact wpAny_bind (wpAny_bind (m := Builtin.Tuple.tupleExact _) (wpAny_newObj_type (wpAny_pure ⟨_, rfl, wpAny_pure h⟩) hz))
end
section
variable {X : Cx}
def tRevT (K : PySem.W.Frag) (te : TE) : TE := fun σ H Q => te σ H fun x H1 => ∃ a u v, x = .ref a ∧ SqT K H1 a [u, v] ∧ ∀ p, H1 p = none → Q (.ref p) (upd H1 p (.tup [v, u]))
theorem pe_revT {e : Expr} {te : TE} {k : Nat} {p1 p2 p3 pos : Pos} (he : PE X e te) : PE X (.Subscript e (.Slice none none (some (.UnaryOp .USub (.Constant (.int 1) k p1) p2)) p3) pos) (tRevT X.K te) := by
  refine ⟨fun pins s σ H Q I h => ?_⟩
  refine Subscript_ (thn (he.run pins s σ H _ I h) fun v s1 ⟨x, H1, I1, r1, q1⟩ => ?_)
  obtain ⟨a, w1, w2, ex, hx, q⟩ := q1
  subst ex
  cases r1
  have hst : PO X (some (.UnaryOp .USub (.Constant (.int 1) k p1) p2)) (tPart (tUn (rU fun i => .int (-i)) (tC (.int 1)))) := po_some (pe_un un_neg pe_int)
  refine wpAny_Slice (thn (po_none.run pins s1 σ H1 (fun o H2 => o = none ∧ H2 = H1) I1 ⟨rfl, rfl⟩) fun vl s2 ⟨l, H2, I2, pl, el, e2⟩ => ?_)
  subst el e2
  refine thn (po_none.run pins s2 σ H2 (fun o H3 => o = none ∧ H3 = H2) I2 ⟨rfl, rfl⟩) fun vu s3 ⟨u, H3, I3, pu, eu, e3⟩ => ?_
  subst eu e3
  refine thn (hst.run pins s3 σ H3 (fun o H4 => o = some (-1) ∧ H4 = H3) I3 ⟨1, rfl, -1, rfl, rfl, rfl⟩) fun vs s4 ⟨o, H4, I4, ps, eo, e4⟩ => ?_
  subst eo e4
  have I5 : Inv X pins σ H4 { s4 with heap := s4.heap.push { cls := .type "slice", data := .fields #[vl, vu, vs] } } := I4.kept (t' := s4.toks) fun b ob q => Heap.get?_push_of_some _ q
  obtain ⟨its, r, ht, hz⟩ := I5.tuple hx
  obtain ⟨u1, u2, rfl, r1, r2⟩ : ∃ u1 u2, its = [u1, u2] ∧ RelV w1 u1 ∧ RelV w2 u2 := by
    cases r with
    | cons p q =>
      cases q with
      | cons p' q' =>
        cases q'
        exact ⟨_, _, rfl, p, p'⟩
  show wpAny (model X.prog X.w) X.A (subscriptTail e (.Slice none none (some (.UnaryOp .USub (.Constant (.int 1) k p1) p2)) p3) (.ref a) (.ref s4.heap.objs.size)) (EP X pins σ Q) X.xe { s4 with heap := s4.heap.push { cls := .type "slice", data := .fields #[vl, vu, vs] } }
  refine tail_any (ops := [.ref a, .ref s4.heap.objs.size]) ht.typeIs (PyProof.Rows.slot_tuple_getitem.lookup) ?_ (by with_unfolding_all rfl)
  refine getItem_rev2 ht (Heap.IsSliceOf.new _ vl vu vs) pl pu ps ?_
  refine ⟨.ref _, _, I5.laid (t' := s4.toks) (o := .tup [w2, w1]) (fun b ob q => Heap.get?_push_of_some _ q) (Nat.le_refl _) ?_, rfl, q _ (I5.hok.fresh (Nat.le_refl _))⟩
  exact ⟨by show 2 ≤ sizeLine; decide, [u2, u1], .cons r2 (.cons r1 .nil), IsTup.new _ _⟩
/-- the reading of e, and what stands at d then locked for good -/
theorem pe_thenLock {e : Expr} {te : TE} (he : PE X e te) : PE X e (fun σ H Q => te σ H fun x H1 => ∃ d u, H1 d = some u ∧ Mut (some u) ∧ ∀ od, Q x (upd H1 d (.frz od u))) := by
  refine ⟨fun pins s σ H Q I h => ?_⟩
  refine thn (he.run pins s σ H _ I h) fun v s1 ⟨x, H1, I1, r, d, u, hd, mu, q⟩ => ?_
  obtain ⟨od, I2⟩ := I1.lock hd mu
  exact ⟨x, _, I2, r, q od⟩
end
section
variable {X : Cx} {P : Program} {w : World} {K : PySem.W.Frag} {mg : Str → Option Value} {base : Heap} {N : List Str} {sc : Scope} {k : Nat} {lv : Bool}
variable {σ : L2.St} {H : Hp} {Q : VK} {tg o e f : Expr} {apos cpos pos : Pos} {a : Addr} {xs : List V}
theorem e_revT (C : Kx X P w K mg base N sc k lv) {j : Nat} {p1 p2 p3 : Pos} (h : wE X e σ H fun x H1 => ∃ a u v, x = .ref a ∧ SqT K H1 a [u, v] ∧ ∀ p, H1 p = none → Q (.ref p) (upd H1 p (.tup [v, u]))) :
    wE X (.Subscript e (.Slice none none (some (.UnaryOp .USub (.Constant (.int 1) j p1) p2)) p3) pos) σ H Q := by
  have e3 := C.eK; subst e3
  exact goE (pe_revT peW) h
theorem e_revL (C : Kx X P w K mg base N sc k lv) {j : Nat} {p1 p2 p3 : Pos} (h : wE X e σ H fun x H1 => ∃ a xs, x = .ref a ∧ SqL K H1 a xs ∧ ∀ p, H1 p = none → Q (.ref p) (upd H1 p (.lst xs.reverse))) :
    wE X (.Subscript e (.Slice none none (some (.UnaryOp .USub (.Constant (.int 1) j p1) p2)) p3) pos) σ H Q := by
  have e3 := C.eK; subst e3
  exact goE (pe_revL peW) h
/-- d.setdefault(y, z) -/
theorem e_setd (C : Kx X P w K mg base N sc k lv) (h : wE X o σ H fun x H1 => ∃ a kvs, x = .ref a ∧ H1 a = some (.dK kvs) ∧ wE X e σ H1 fun y H2 => wE X f σ H2 fun z H3 => ∃ (kvs : List (Key × V)) (t : Str), y = .str t ∧ H3 a = some (.dK kvs) ∧ kvs.length < sizeLine ∧
      (∀ v, valV kvs (Sum.inr t : Key) = some v → Q v H3) ∧ (valV kvs (Sum.inr t : Key) = none → Q z (upd H3 a (.dK (putK kvs (Sum.inr t : Key) z)))))
    (m1 : attributeBase o "setdefault" X.env (eval o X.env) = eval o X.env := by rfl) (m2 : ((backTo cpos (starEach [e, f] X.env)).all (fun x => !x.1) && (backToKw cpos (keywordEach [] X.env)).all (fun x => x.1.isSome)
    && decide (([e, f] : List Expr).length + ([] : List Keyword).length + (if ([] : List Keyword).isEmpty then 0 else 1) < 30)) = true := by rfl) (m3 : (apos.endLine == cpos.line) = true := by rfl) (m4 : backTo cpos (starEach [e, f] X.env) = [(false, eval e X.env), (false, eval f X.env)] := by rfl) :
    wE X (.Call (.Attribute o "setdefault" apos) [e, f] [] cpos) σ H Q :=
  goE (pe_dsetd peW peW peW ⟨m1, m2, m3, m4⟩) (wE_mono (fun x H1 ⟨a, kvs, e1, hd, q⟩ => ⟨a, e1, .inl ⟨kvs, .inl hd⟩, wE_mono (fun y H2 q => wE_mono (fun z H3 ⟨kvs, t, e2, hd, hl, q1, q2⟩ => ⟨kvs, Sum.inr t, hd, e2, hl, q1, q2⟩) q) q⟩) h)
/-- .. in e.values(), the dict locked for good -/
theorem x_V {B : List V → Hp → Prop} (C : Kx X P w K mg base N sc k lv) (h : wE X e σ H fun v H1 => ∃ d kvs, v = .ref d ∧ H1 d = some (.dK kvs) ∧ ∀ od, B (kvs.map (·.2)) (upd H1 d (.frz od (.dK kvs))))
    (hbase : attributeBase e "values" X.env (eval e X.env) = eval e X.env := by rfl) (hline : (apos.endLine == cpos.line) = true := by rfl) : wI X tg (.Call (.Attribute e "values" apos) [] [] cpos) σ H (SrcX B) :=
  goI (pi_values (pe_thenLock peW) hbase hline) (wE_mono (fun v H1 ⟨d, kvs, e1, hd, q⟩ => ⟨d, _, hd, True.intro, fun od => ⟨d, od, kvs, e1, upd_same, kvs.map (·.2), fun H => H d = some (.frz od (.dK kvs)), by
    rw [List.length_map]
    exact walk_values.mono (fun _ h => h) fun i H x H' hi _ hy => by
      obtain ⟨rfl, k', hk⟩ := hy
      exact ⟨rfl, by rw [List.getElem?_map, hk]; rfl⟩, fun H' x => x _ _ upd_same, q od⟩⟩) h)
/-- .. in e, e a dict, locked for good -/
theorem x_K {B : List V → Hp → Prop} (C : Kx X P w K mg base N sc k lv) (h : wE X e σ H fun v H1 => ∃ d kvs, v = .ref d ∧ H1 d = some (.dK kvs) ∧ ∀ od, B (kvs.map fun kv => kV kv.1) (upd H1 d (.frz od (.dK kvs)))) : wI X tg e σ H (SrcX B) :=
  goI (pi_keys (pe_thenLock peW)) (wE_mono (fun v H1 ⟨d, kvs, e1, hd, q⟩ => ⟨d, _, hd, True.intro, fun od => ⟨d, od, e1, .inl ⟨kvs, upd_same, kvs.map (fun kv => kV kv.1), fun H => H d = some (.frz od (.dK kvs)), by
    rw [List.length_map]
    exact walk_keys.mono (fun _ h => h) fun i H x H' hi _ hy => by
      obtain ⟨rfl, k', v', hk, e2⟩ := hy
      exact ⟨rfl, by rw [List.getElem?_map, hk, e2]; rfl⟩, fun H' x => x _ _ upd_same, q od⟩⟩⟩) h)
theorem dpA_get {K : PySem.W.Frag} {H : Hp} : ∀ {xs : List V} {ds : List PyData} {i : Nat} {v : V}, DpAll K H xs ds → xs[i]? = some v → ∃ e, ds[i]? = some e ∧ Dp K H v e
  | [], _, _, _, _, h => by simp at h
  | x :: xs, _, 0, v, .cons p q, h => by simp at h; subst h; exact ⟨_, rfl, p⟩
  | x :: xs, _, i + 1, v, .cons p q, h => by
    obtain ⟨e, h1, h2⟩ := dpA_get q (by simpa using h)
    exact ⟨e, by simpa using h1, h2⟩
/-- min of a list of alike data -/
theorem c_minD (C : Kx X P w K mg base N sc k lv) {d : PyData} {ds : List PyData} (hq : SqL K H a xs) (hA : DpAll K H xs (d :: ds)) (al : PySem.W.AlikeAll (d :: ds)) (hd : PyData.depthAll (d :: ds) ≤ 60)
    (h : ∀ (i : Nat) v, xs[i]? = some v → (d :: ds)[i]? = some (PySem.W.minD d ds) → Q v H) : wC X (.builtin "min") [.ref a] H Q := by
  have e3 := C.eK; subst e3
  refine ⟨fun pins s σ us I rv => ?_⟩
  obtain ⟨its, r, pl, hz⟩ := I.list hq
  rw [Vals.ref1 rv]
  obtain ⟨as, ra⟩ := Dp.readsAll I (d :: ds) xs its hA r
  refine PySem.W.min_list_data (I.ok.hd C.calm) pl.isList (by simpa using ra) al (by have := C.room.un; omega) fun i v h' tk bs hi rr hk => ?_
  have hlen := r.length
  have hil : i < xs.length := by
    have := (Array.getElem?_eq_some_iff.mp hi).1
    rw [List.size_toArray] at this
    omega
  obtain ⟨u, ew, ru⟩ := r.get (List.getElem?_eq_getElem hil)
  have eu : u = v := by
    have h2 : its[i]? = some v := by simpa using hi
    rw [ew] at h2
    exact Option.some.inj h2
  subst eu
  refine ⟨xs[i], H, I.kept hk, ru, h i _ (List.getElem?_eq_getElem hil) ?_⟩
  obtain ⟨e, h1, h2⟩ := dpA_get hA (List.getElem?_eq_getElem hil)
  obtain ⟨as2, r2⟩ := Dp.reads I e _ _ h2 ru
  have := (PyProof.Rows.reads_det (fun b o e _ => hk b o e) r2 rr).1
  rw [this]
  exact h1
end
end DP
set_option Elab.async false
set_option linter.all false
set_option maxRecDepth 100000
set_option maxHeartbeats 1000000
namespace DP
open PySem L2
/-! ### the order of dates -/
def dlt (a b : Dt) : Prop := a.1 < b.1 ∨ (a.1 = b.1 ∧ (a.2.1 < b.2.1 ∨ (a.2.1 = b.2.1 ∧ a.2.2 < b.2.2)))
instance (a b : Dt) : Decidable (dlt a b) := by unfold dlt; infer_instance
theorem dataLt_dD (a b : Dt) : PySem.W.dataLt (dD a) (dD b) = decide (dlt a b) := by
  unfold dD
  rw [PySem.W.dataLt_tuple, PySem.W.dataLt_cons (by simp [PySem.W.alike]), PySem.W.dataLt_cons (by simp [PySem.W.alike]), PySem.W.dataLt_cons (by simp [PySem.W.alike]), PySem.W.dataLt_int, PySem.W.dataLt_int, PySem.W.dataLt_int]
  have e : PyProof.Rows.lexLt PyProof.Rows.itemOrd (PySem.W.keyToksAll []) (PySem.W.keyToksAll []) = false := PyProof.Rows.lex_irrefl _
  rw [e]
  simp only [PyData.eqv, beq_iff_eq]
  unfold dlt
  by_cases h1 : a.1 = b.1 <;> by_cases h2 : a.2.1 = b.2.1 <;> by_cases h3 : a.2.2 = b.2.2 <;> simp [h1, h2, h3]
theorem dlt_irrefl (a : Dt) : ¬ dlt a a := by unfold dlt; omega
theorem dlt_asymm {a b : Dt} (h : dlt a b) : ¬ dlt b a := by unfold dlt at *; omega
theorem dlt_trans {a b c : Dt} (h : dlt a b) (h2 : dlt b c) : dlt a c := by unfold dlt at *; omega
theorem dates_sorted (a b : Int) : (datesIn a b).Pairwise dlt := by
  unfold datesIn
  rw [List.pairwise_flatMap]
  refine ⟨fun i _ => ?_, ?_⟩
  · unfold yearDays
    rw [List.pairwise_flatMap]
    refine ⟨fun j _ => ?_, ?_⟩
    · unfold monthDays
      rw [List.pairwise_map]
      exact List.pairwise_lt_range.imp fun h => by unfold dlt; simp; omega
    · refine List.pairwise_lt_range.imp fun h x hx y hy => ?_
      unfold monthDays at hx hy
      obtain ⟨_, _, rfl⟩ := List.mem_map.mp hx
      obtain ⟨_, _, rfl⟩ := List.mem_map.mp hy
      unfold dlt
      simp
      omega
  · refine List.pairwise_lt_range.imp fun h x hx y hy => ?_
    unfold yearDays at hx hy
    obtain ⟨_, _, hx⟩ := List.mem_flatMap.mp hx
    obtain ⟨_, _, hy⟩ := List.mem_flatMap.mp hy
    unfold monthDays at hx hy
    obtain ⟨_, _, rfl⟩ := List.mem_map.mp hx
    obtain ⟨_, _, rfl⟩ := List.mem_map.mp hy
    unfold dlt
    simp
    omega
theorem sorted_nodup {l : List Dt} (h : l.Pairwise dlt) : l.Nodup := h.imp fun hab e => by subst e; exact dlt_irrefl _ hab
/-! ### the least of some data -/
theorem dl_trans {a b c : PyData} (h1 : PySem.W.dataLt a b = true) (h2 : PySem.W.dataLt b c = true) : PySem.W.dataLt a c = true := PyProof.Rows.lex_trans _ _ _ h1 h2
theorem minD_spec (x : PyData) (xs : List PyData) : PySem.W.minD x xs ∈ x :: xs ∧ ∀ y ∈ x :: xs, PySem.W.dataLt y (PySem.W.minD x xs) = false := by
  unfold PySem.W.minD
  induction xs using snoc_ind with
  | h0 => exact ⟨List.mem_singleton.mpr rfl, fun y hy => by rw [List.mem_singleton.mp hy]; exact PyProof.Rows.lex_irrefl _⟩
  | h1 l a ih =>
    rw [List.foldl_append]
    show (if PySem.W.dataLt a (List.foldl _ x l) = true then a else List.foldl _ x l) ∈ x :: (l ++ [a]) ∧ ∀ y ∈ x :: (l ++ [a]), PySem.W.dataLt y (if PySem.W.dataLt a (List.foldl _ x l) = true then a else List.foldl _ x l) = false
    by_cases h : PySem.W.dataLt a (List.foldl (fun a y => if PySem.W.dataLt y a = true then y else a) x l) = true
    · rw [if_pos h]
      refine ⟨by simp, fun y hy => ?_⟩
      rw [← List.cons_append, List.mem_append] at hy
      rcases hy with hy | hy
      · cases e : PySem.W.dataLt y a with
        | false => rfl
        | true =>
          have := ih.2 y hy
          rw [dl_trans e h] at this
          cases this
      · rw [List.mem_singleton.mp hy]; exact PyProof.Rows.lex_irrefl _
    · rw [if_neg h]
      refine ⟨by rw [← List.cons_append]; exact List.mem_append_left _ ih.1, fun y hy => ?_⟩
      rw [← List.cons_append, List.mem_append] at hy
      rcases hy with hy | hy
      · exact ih.2 y hy
      · rw [List.mem_singleton.mp hy]; simpa using h
/-! ### the table's rows -/
theorem tAdd_mem {k : Str} {d : Dt} : ∀ {t : Tb} {e : Str × List Dt}, e ∈ tAdd k d t → (e ∈ t ∧ e.1 ≠ k) ∨ (e.1 = k ∧ e.2 = (tGet t k).getD [] ++ [d]) ∨ e ∈ t.drop 1 := by
  intro t
  induction t with
  | nil =>
    intro e h
    unfold tAdd at h
    rw [List.mem_singleton.mp h]
    exact .inr (.inl ⟨rfl, rfl⟩)
  | cons x t ih =>
    intro e h
    unfold tAdd at h
    split at h
    · rename_i hx
      rcases List.mem_cons.mp h with rfl | h
      · exact .inr (.inl ⟨hx, by unfold tGet; simp [hx]⟩)
      · exact .inr (.inr h)
    · rename_i hx
      rcases List.mem_cons.mp h with rfl | h
      · exact .inl ⟨List.mem_cons_self .., hx⟩
      · rcases ih h with ⟨h1, h2⟩ | ⟨h1, h2⟩ | h1
        · exact .inl ⟨List.mem_cons_of_mem _ h1, h2⟩
        · refine .inr (.inl ⟨h1, ?_⟩)
          rw [h2]
          unfold tGet
          simp [hx]
        · exact .inr (.inr (List.mem_of_mem_drop h1))
theorem tKeys_add (k : Str) (d : Dt) : ∀ t : Tb, (tAdd k d t).map (·.1) = if k ∈ t.map (·.1) then t.map (·.1) else t.map (·.1) ++ [k]
  | [] => by simp [tAdd]
  | x :: t => by
    have ih := tKeys_add k d t
    unfold tAdd
    by_cases h : x.1 = k
    · rw [if_pos h]
      simp [h]
    · rw [if_neg h, List.map_cons, ih, List.map_cons]
      have h' : ¬ k = x.1 := fun z => h z.symm
      by_cases h2 : k ∈ t.map (·.1)
      · rw [if_pos h2, if_pos (List.mem_cons_of_mem _ h2)]
      · rw [if_neg h2, if_neg (by simp only [List.mem_cons, not_or]; exact ⟨h', h2⟩)]
        rfl
theorem tKeys_nodup (f : Dt → Str) : ∀ ds : List Dt, ((tblF f ds).map (·.1)).Nodup := by
  refine snoc_ind List.nodup_nil fun ds d ih => ?_
  rw [tblF_snoc, tKeys_add]
  split
  · exact ih
  · rename_i h
    rw [List.nodup_append]
    exact ⟨ih, by simp, fun a ha b hb => by rw [List.mem_singleton.mp hb]; intro e; subst e; exact h ha⟩
theorem tGet_mem {t : Tb} (hn : (t.map (·.1)).Nodup) {e : Str × List Dt} (he : e ∈ t) : tGet t e.1 = some e.2 := by
  induction t with
  | nil => cases he
  | cons x t ih =>
    rw [List.map_cons, List.nodup_cons] at hn
    unfold tGet
    rcases List.mem_cons.mp he with rfl | h
    · simp
    · have : ¬ x.1 = e.1 := fun z => hn.1 (z ▸ List.mem_map.mpr ⟨e, h, rfl⟩)
      rw [List.find?_cons]
      simp only [this, decide_false]
      exact ih hn.2 h
/-- a row of the table: a text and its dates -/
theorem tbl_row {f : Dt → Str} {ds : List Dt} {e : Str × List Dt} (he : e ∈ tblF f ds) : e.2 = ds.filter fun d => decide (f d = e.1) := by
  have h := (tGet_tbl f e.1 ds).1
  rw [tGet_mem (tKeys_nodup f ds) he] at h
  exact h
theorem tbl_has {f : Dt → Str} {ds : List Dt} {d : Dt} (hd : d ∈ ds) : (f d, ds.filter fun z => decide (f z = f d)) ∈ tblF f ds := by
  have h := tGet_tbl f (f d) ds
  have h2 : (tGet (tblF f ds) (f d)).isSome = true := by rw [h.2, List.any_eq_true]; exact ⟨d, hd, by simp⟩
  obtain ⟨l, hl⟩ := Option.isSome_iff_exists.mp h2
  have h1 := h.1
  rw [hl] at h1
  have h1 : l = _ := h1
  rw [← h1]
  unfold tGet at hl
  cases e : (tblF f ds).find? (fun e => decide (e.1 = f d)) with
  | none => rw [e] at hl; cases hl
  | some x =>
    rw [e] at hl
    have hx := List.find?_some e
    have hm := List.mem_of_find?_eq_some e
    have : x = (f d, l) := by
      have e1 : x.1 = f d := by simpa using hx
      have e2 : x.2 = l := by simpa using hl
      rw [← e1, ← e2]
    rw [← this]
    exact hm
/-! ### the first clash -/
def pD (p : Dt × Dt) : PyData := .tuple [dD p.1, dD p.2]
/-- d is the first date whose text was written before, and that by e -/
def IsDup (f : Dt → Str) (ds : List Dt) (e d : Dt) : Prop := ∃ p1 p2, ds = p1 ++ d :: p2 ∧ (p1.map f).Nodup ∧ p1.find? (fun x => decide (f x = f d)) = some e
def secs (t : Tb) : List (Dt × Dt) := (t.filter fun e => decide (1 < e.2.length)).map fun e => (e.2.getD 1 (0, 0, 0), e.2.getD 0 (0, 0, 0))
theorem filt1 {f : Dt → Str} {t : Str} : ∀ {l : List Dt}, (l.map f).Nodup → (l.filter fun d => decide (f d = t)) = (l.find? fun d => decide (f d = t)).toList
  | [], _ => rfl
  | x :: l, h => by
    rw [List.map_cons, List.nodup_cons] at h
    rw [List.filter_cons, List.find?_cons]
    by_cases hx : f x = t
    · simp only [hx, decide_true, if_true]
      have : (l.filter fun d => decide (f d = t)) = [] := by
        rw [List.filter_eq_nil_iff]
        intro d hd he
        exact h.1 (by rw [hx, ← of_decide_eq_true he]; exact List.mem_map.mpr ⟨d, hd, rfl⟩)
      rw [this]
      rfl
    · simp only [hx, decide_false]
      exact filt1 h.2
theorem secs_nil {f : Dt → Str} {ds : List Dt} (h : (ds.map f).Nodup) : secs (tblF f ds) = [] := by
  unfold secs
  rw [List.map_eq_nil_iff, List.filter_eq_nil_iff]
  intro e he
  rw [tbl_row he, filt1 h]
  cases List.find? _ ds <;> simp
theorem secs_min {f : Dt → Str} {ds : List Dt} {e d : Dt} (hs : ds.Pairwise dlt) (h : IsDup f ds e d) : (d, e) ∈ secs (tblF f ds) ∧ ∀ p ∈ secs (tblF f ds), p = (d, e) ∨ dlt d p.1 := by
  obtain ⟨p1, p2, rfl, hn, hf⟩ := h
  constructor
  · unfold secs
    rw [List.mem_map]
    refine ⟨_, List.mem_filter.mpr ⟨tbl_has (d := d) (by simp), ?_⟩, ?_⟩
    · rw [List.filter_append, filt1 hn, hf, List.filter_cons]
      simp
    · rw [List.filter_append, filt1 hn, hf, List.filter_cons]
      simp
  · intro p hp
    unfold secs at hp
    obtain ⟨r, hr, rfl⟩ := List.mem_map.mp hp
    obtain ⟨hr1, hr2⟩ := List.mem_filter.mp hr
    have hrow := tbl_row hr1
    have hlen : 1 < r.2.length := of_decide_eq_true hr2
    rw [List.filter_append, filt1 hn] at hrow
    generalize r.2 = L at hrow hlen
    generalize hT : r.1 = T at hrow
    rw [List.pairwise_append] at hs
    have hd2 := (List.pairwise_cons.mp hs.2.1).1
    rw [List.filter_cons] at hrow
    cases hz : p1.find? (fun x => decide (f x = T)) with
    | none =>
      rw [hz] at hrow
      right
      have hmem : L.getD 1 (0, 0, 0) ∈ L.drop 1 := by
        cases L with
        | nil => simp at hlen
        | cons a L => cases L with
          | nil => simp at hlen
          | cons b L => simp
      rw [hrow] at hmem
      by_cases hd : f d = T
      · simp only [hd, decide_true, if_true] at hmem hrow
        rw [← hrow] at hmem
        subst hrow
        simp only [Option.toList, List.nil_append, List.drop_succ_cons, List.drop_zero] at hmem ⊢
        exact hd2 _ (List.mem_filter.mp hmem).1
      · simp only [hd, decide_false] at hmem hrow
        rw [← hrow] at hmem
        subst hrow
        simp only [Option.toList, List.nil_append] at hmem ⊢
        exact hd2 _ (List.mem_filter.mp (List.mem_of_mem_drop hmem)).1
    | some x =>
      rw [hz] at hrow
      by_cases hd : f d = T
      · left
        have hx : x = e := by
          rw [← hd, hf] at hz
          exact (Option.some.inj hz).symm
        subst hx
        simp only [hd, decide_true, if_true] at hrow
        rw [hrow]
        simp
      · right
        simp only [hd, decide_false] at hrow
        subst hrow
        have hl2 : 0 < (p2.filter fun a => decide (f a = T)).length := by
          simpa using hlen
        have : (Option.toList (some x) ++ List.filter (fun a => decide (f a = T)) p2).getD 1 (0, 0, 0) ∈ p2.filter fun a => decide (f a = T) := by
          cases hq : p2.filter (fun a => decide (f a = T)) with
          | nil => rw [hq] at hl2; simp at hl2
          | cons a L => simp
        exact hd2 _ (List.mem_filter.mp this).1
/-- what a clash is -/
def Clash (f : Dt → Str) (ds : List Dt) (o : Option (Dt × Dt)) : Prop := (o = none ∧ (ds.map f).Nodup) ∨ ∃ e d, o = some (e, d) ∧ IsDup f ds e d
/-- two dates -/
def PairV (K : PySem.W.Frag) (H : Hp) (p : Dt × Dt) (v : V) : Prop := ∃ a u1 u2, v = .ref a ∧ SqT K H a [u1, u2] ∧ DateV K H p.1 u1 ∧ DateV K H p.2 u2
theorem PairV.tk {K : PySem.W.Frag} {H H' : Hp} {p : Dt × Dt} {v : V} (e : Tk H H') (h : PairV K H p v) : PairV K H' p v := by
  obtain ⟨a, u1, u2, e1, h1, h2, h3⟩ := h
  exact ⟨a, u1, u2, e1, sqt_tk e h1, h2.tk e, h3.tk e⟩
def OptV (K : PySem.W.Frag) (H : Hp) : Option (Dt × Dt) → V → Prop
  | none, v => v = .non
  | some p, v => PairV K H p v
theorem OptV.tk {K : PySem.W.Frag} {H H' : Hp} {o : Option (Dt × Dt)} {v : V} (e : Tk H H') (h : OptV K H o v) : OptV K H' o v := by
  cases o with
  | none => exact h
  | some p => exact PairV.tk e h
def oD : Option (Dt × Dt) → PyData
  | none => .none
  | some p => pD p
theorem dp_pair {K : PySem.W.Frag} {H : Hp} {p : Dt × Dt} {v : V} (h : PairV K H p v) : Dp K H v (pD p) := by
  obtain ⟨a, u1, u2, rfl, h1, h2, h3⟩ := h
  exact .tup h1 (.cons (dp_date h2) (.cons (dp_date h3) .nil))
theorem dp_opt {K : PySem.W.Frag} {H : Hp} {o : Option (Dt × Dt)} {v : V} (h : OptV K H o v) : Dp K H v (oD o) := by
  cases o with
  | none => rw [show v = .non from h]; exact .non
  | some p => exact dp_pair h
theorem sh_pD (n : Nat) (p : Dt × Dt) : sh (n + 2) (pD p) := sh_tup (shA_cons (sh_dD n _) (shA_cons (sh_dD n _) (shA_nil _)))
theorem sh_oD (n : Nat) (o : Option (Dt × Dt)) : sh (n + 2) (oD o) := by
  cases o with
  | none => exact sh_non _
  | some p => exact sh_pD n p
theorem clean_oD (o : Option (Dt × Dt)) : clean (oD o) = true := by cases o <;> rfl
theorem eqv_oD (o : Option (Dt × Dt)) : PyData.eqv (oD o) (oD o) = true := eqv_true (sh_oD 0 o)
theorem dpA_pairs {K : PySem.W.Frag} {H : Hp} {ps : List (Dt × Dt)} {xs : List V} (h : Paired (PairV K H) ps xs) : DpAll K H xs (ps.map pD) := by
  induction h with
  | nil => exact .nil
  | cons r t ih => exact .cons (dp_pair r) ih
theorem alike_pD (p q : Dt × Dt) : PySem.W.alike (pD p) (pD q) = true := by simp [pD, dD, PySem.W.alike, PySem.W.alikeAll]
theorem alike_pDs (ps : List (Dt × Dt)) : PySem.W.AlikeAll (ps.map pD) := ⟨fun x hx y hy => by
  obtain ⟨p, _, rfl⟩ := List.mem_map.mp hx
  obtain ⟨q, _, rfl⟩ := List.mem_map.mp hy
  exact alike_pD p q, fun x hx => by
  obtain ⟨p, _, rfl⟩ := List.mem_map.mp hx
  intro e
  cases e⟩
theorem lt_pD {p q : Dt × Dt} (h : dlt p.1 q.1) : PySem.W.dataLt (pD p) (pD q) = true := by
  unfold pD
  rw [PySem.W.dataLt_pair (by simp [dD, PySem.W.alike, PySem.W.alikeAll]) (by simp [dD, PySem.W.alike, PySem.W.alikeAll])]
  have hne : ¬ p.1 = q.1 := fun e => dlt_irrefl _ (e ▸ h)
  simp [eqv_dD, dataLt_dD, hne, h]
/-- the least of the seconds is the first clash -/
theorem clash_min {f : Dt → Str} {ds : List Dt} {o : Option (Dt × Dt)} (hs : ds.Pairwise dlt) (h : Clash f ds o) {p : Dt × Dt} (hp : p ∈ secs (tblF f ds)) (hm : ∀ q ∈ secs (tblF f ds), PySem.W.dataLt (pD q) (pD p) = false) : o = some (p.2, p.1) := by
  rcases h with ⟨_, hn⟩ | ⟨e, d, rfl, hd⟩
  · rw [secs_nil hn] at hp; cases hp
  · obtain ⟨h1, h2⟩ := secs_min hs hd
    rcases h2 p hp with rfl | h3
    · rfl
    · have := hm _ h1
      rw [lt_pD h3] at this
      cases this
theorem clash_none {f : Dt → Str} {ds : List Dt} {o : Option (Dt × Dt)} (hs : ds.Pairwise dlt) (h : Clash f ds o) (hz : secs (tblF f ds) = []) : o = none := by
  rcases h with ⟨h, _⟩ | ⟨e, d, rfl, hd⟩
  · exact h
  · have := (secs_min hs hd).1
    rw [hz] at this
    cases this
section
variable {K : PySem.W.Frag} {H : Hp} {Q : VK} {E : XK} {v u : V} {a b : Int} {ps : List Str}
def RetO (K : PySem.W.Frag) (R : Option (Dt × Dt) → Prop) (H : Hp) (Q : VK) : Prop := ∀ r H', Ex H H' → (∀ o, R o → OptV K H' o r) → Q r H'
def sp_clash (K : PySem.W.Frag) : Sp := fun vs H Q _ => ∃ v ps u a b, vs = [v, u] ∧ StrsV K H ps v ∧ small ps ∧ isPat ps = true ∧ SpanV K H a b u ∧ isSp a b = true ∧ RetO K (Clash (wr ps) (datesIn a b)) H Q
theorem u_clash (hp : StrsV K H ps v) (hs : small ps) (hi : isPat ps = true) (hd : SpanV K H a b u) (h : isSp a b = true) (q : RetO K (Clash (wr ps) (datesIn a b)) H Q) : sp_clash K [v, u] H Q E := ⟨v, ps, u, a, b, rfl, hp, hs, hi, hd, h, q⟩
end
theorem atI0 {α : Type} (x : α) (r : List α) : atI (x :: r) 0 = some x := by simpa using atI_getD (f := id) (l := x :: r) (i := 0) x (by decide) (by simp)
theorem atI1 {α : Type} (x y : α) (r : List α) : atI (x :: y :: r) 1 = some y := by simpa using atI_getD (f := id) (l := x :: y :: r) (i := 1) x (by decide) (by simp; omega)
theorem paired_R {α β γ : Type} {F : α → β → Prop} {G : α → γ → Prop} {g : β → γ} {l : List α} {r : List β} (h : Paired F l r) (hg : ∀ a b, F a b → G a (g b)) : Paired G l (r.map g) := by
  induction h with
  | nil => exact .nil
  | cons q t ih => exact .cons (hg _ _ q) ih
theorem dates_two {K : PySem.W.Frag} {H : Hp} {ds : List Dt} {xs : List V} (h : DatesV K H ds xs) (hl : 1 < ds.length) : ∃ x0 x1 xr, xs = x0 :: x1 :: xr ∧ DateV K H (ds.getD 0 (0, 0, 0)) x0 ∧ DateV K H (ds.getD 1 (0, 0, 0)) x1 := by
  cases h with
  | nil => simp at hl
  | cons p q =>
    cases q with
    | nil => simp at hl
    | cons p' q' => exact ⟨_, _, _, rfl, p, p'⟩
theorem shA_depth {n : Nat} {ds : List PyData} (h : shA n ds) : PyData.depthAll ds ≤ n := h.2
/-! ### the law's own search for a clash -/
def SeenV (K : PySem.W.Frag) (H : Hp) (f : Dt → Str) (pre : List Dt) (kvs : List (Key × V)) : Prop := ∀ t : Str, (pre.find? (fun x => decide (f x = t)) = none ∧ valV kvs (Sum.inr t : Key) = none) ∨ ∃ e u, pre.find? (fun x => decide (f x = t)) = some e ∧ valV kvs (Sum.inr t : Key) = some u ∧ DateV K H e u
theorem SeenV.tk {K : PySem.W.Frag} {H H' : Hp} {f : Dt → Str} {pre : List Dt} {kvs : List (Key × V)} (e : Tk H H') (h : SeenV K H f pre kvs) : SeenV K H' f pre kvs := fun t => by
  rcases h t with h | ⟨e1, u, h1, h2, h3⟩
  · exact .inl h
  · exact .inr ⟨e1, u, h1, h2, h3.tk e⟩
theorem find_snoc {f : Dt → Str} {pre : List Dt} {d : Dt} {t : Str} : (pre ++ [d]).find? (fun x => decide (f x = t)) = (pre.find? (fun x => decide (f x = t))).or (if f d = t then some d else none) := by
  rw [List.find?_append, List.find?_cons]
  by_cases h : f d = t <;> simp [h]
theorem SeenV.keep {K : PySem.W.Frag} {H : Hp} {f : Dt → Str} {pre : List Dt} {kvs : List (Key × V)} {d : Dt} {u : V} (h : SeenV K H f pre kvs) (hv : valV kvs (Sum.inr (f d) : Key) = some u) : SeenV K H f (pre ++ [d]) kvs := fun t => by
  rw [find_snoc]
  rcases h t with ⟨h1, h2⟩ | ⟨e1, u1, h1, h2, h3⟩
  · left
    have : ¬ f d = t := fun z => by rw [← z, hv] at h2; cases h2
    rw [h1, if_neg this]
    exact ⟨rfl, h2⟩
  · right
    rw [h1]
    exact ⟨e1, u1, rfl, h2, h3⟩
theorem SeenV.put {K : PySem.W.Frag} {H : Hp} {f : Dt → Str} {pre : List Dt} {kvs : List (Key × V)} {d : Dt} {u : V} (h : SeenV K H f pre kvs) (hv : valV kvs (Sum.inr (f d) : Key) = none) (hd : DateV K H d u) : SeenV K H f (pre ++ [d]) (putK kvs (Sum.inr (f d) : Key) u) := fun t => by
  rw [find_snoc, valV_put]
  rcases h t with ⟨h1, h2⟩ | ⟨e1, u1, h1, h2, h3⟩
  · by_cases hz : f d = t
    · right
      subst hz
      rw [h1, if_pos rfl, if_pos rfl]
      exact ⟨d, u, rfl, rfl, hd⟩
    · left
      have hz' : ¬ (Sum.inr t : Key) = Sum.inr (f d) := fun z => hz (Sum.inr.inj z).symm
      rw [h1, if_neg hz, if_neg hz']
      exact ⟨rfl, h2⟩
  · right
    have hz' : ¬ (Sum.inr t : Key) = Sum.inr (f d) := fun z => by
      rw [Sum.inr.inj z, hv] at h2
      cases h2
    rw [h1, if_neg hz']
    exact ⟨e1, u1, rfl, h2, h3⟩
theorem Clash.same {f : Dt → Str} {pre : List Dt} {d : Dt} (h : Clash f pre none) (hf : pre.find? (fun x => decide (f x = f d)) = none) : Clash f (pre ++ [d]) none := by
  rcases h with ⟨_, h⟩ | ⟨_, _, h, _⟩
  · refine .inl ⟨rfl, ?_⟩
    rw [List.map_append, List.nodup_append]
    refine ⟨h, by simp, fun a ha b hb => ?_⟩
    obtain ⟨x, hx, rfl⟩ := List.mem_map.mp ha
    rw [List.mem_singleton.mp hb]
    intro e
    have := List.find?_eq_none.mp hf x hx
    exact this (by simp [e])
  · cases h
theorem Clash.new {f : Dt → Str} {pre : List Dt} {d e : Dt} (h : Clash f pre none) (hf : pre.find? (fun x => decide (f x = f d)) = some e) : Clash f (pre ++ [d]) (some (e, d)) := by
  rcases h with ⟨_, h⟩ | ⟨_, _, h, _⟩
  · exact .inr ⟨e, d, rfl, pre, [], rfl, h, hf⟩
  · cases h
theorem Clash.old {f : Dt → Str} {pre : List Dt} {d : Dt} {p : Dt × Dt} (h : Clash f pre (some p)) : Clash f (pre ++ [d]) (some p) := by
  rcases h with ⟨h, _⟩ | ⟨e, d', h, p1, p2, rfl, h2, h3⟩
  · cases h
  · exact .inr ⟨e, d', h, p1, p2 ++ [d], by simp, h2, h3⟩
theorem clash_nil {f : Dt → Str} : Clash f [] none := .inl ⟨rfl, List.nodup_nil⟩
end DP
set_option Elab.async false
set_option linter.all false
set_option maxRecDepth 100000
set_option maxHeartbeats 1000000
namespace DP
open PySem L2
section
variable {X : Cx} {P : Program} {w : World} {K : PySem.W.Frag} {mg : Str → Option Value} {base : Heap} {N : List Str} {sc : Scope} {k : Nat} {lv : Bool}
variable {σ : L2.St} {H : Hp} {pos p apos cpos : Pos} {tg elt iter c e o : Expr} {scope : Scope} {Q : VK} {i : Nat} {x : Str}
/-- a source that may be walked -/
def SrcI (R : Nat → (Hp → Prop) → (Nat → Hp → V → Hp → Prop) → Hp → Prop) (J : It) (H1 : Hp) : Prop := ∃ n Gd Y, Walk J n Gd Y ∧ R n Gd Y H1
/-- [elt for x in iter], the heap by an invariant -/
theorem e_lcI (C : Kx X P w K mg base N sc k lv)
    (h : wI X (.Name x p) iter σ H (SrcI fun n Gd Y H1 => ∀ D, H1 D = none → ∃ Pv : Nat → Hp → Prop, Pv 0 (upd H1 D (.lst [])) ∧ (∀ m H', m ≤ n → Pv m H' → Gd H') ∧
      (∀ m v H' H2, m < n → Pv m H' → Y m H' v H2 → ∀ X', Kx X' P w K mg base N (relS scope sc) k false → wE X' elt (σ.set i (some v)) H2 fun y H5 => ∃ acc, H5 D = some (.lst acc) ∧ acc.length < sizeLine ∧ Pv (m + 1) (upd H5 D (.lst (acc ++ [y])))) ∧ (∀ H', Pv n H' → Q (.ref D) H')))
    (hN : N[i]? = some x := by rfl) (hx : Sto (relS scope sc) false x := by first | exact Or.inl rfl | exact Or.inr ⟨rfl, rfl⟩) (ok : blkC N sc scope [(x, i)] = true := by decide +kernel) (hs : ∀ x, foldedSetIterable iter X.env x = pure x := by intro _; rfl) :
    wE X (.ListComp elt [⟨.Name x p, iter, [], 0⟩] scope pos) σ H Q :=
  goE (lc_reads C (Nat.zero_le _) (gName i) (pgN (X := X) hN hx) ok hs) (show tLc (wI X (.Name x p) iter) (gName i) (tUT P w K mg base N (relS scope sc) k []) (tU P w K mg base N (relS scope sc) k elt) [i] σ H Q from wI_mono (fun J H1 ⟨n, Gd, Y, wk, q⟩ D nD => by
    obtain ⟨Pv, h0, hG, hst, hd⟩ := q D nD
    refine lc_it wk Pv h0 hG (fun m v H' H2 hm hP hY => ?_) hd
    show wipe ((wipe σ [i]).set i (some v)) [i] = wipe σ [i] ∧ _
    rw [wipe1.1]
    refine ⟨wipe1.2, ?_⟩
    unfold tUT tYes
    dsimp only
    rw [if_pos rfl]
    exact fun X' C' => hst m v H' H2 hm hP hY X' C') h)
theorem z_T {R : Nat → (Hp → Prop) → (Nat → Hp → V → Hp → Prop) → Hp → Prop} (C : Kx X P w K mg base N sc k lv) (h : wE X e σ H fun v H1 => ∃ a xs, v = .ref a ∧ SqT K H1 a xs ∧ R xs.length (fun H => SqT K H a xs) (YAt xs) H1) : wI X tg e σ H (SrcI R) :=
  i_T C (wE_mono (fun v H1 ⟨a, xs, ev, hq, q⟩ => ⟨a, xs, ev, hq, fun J wk => ⟨_, _, _, wk, q⟩⟩) h)
/-- l.pop() -/
theorem e_pop (h : wE X o σ H fun x H1 => ∃ a xs y, x = .ref a ∧ H1 a = some (.lst xs) ∧ xs[xs.length - 1]? = some y ∧ Q y (upd H1 a (.lst xs.dropLast)))
    (hbase : attributeBase o "pop" X.env (eval o X.env) = eval o X.env := by rfl) (hline : (apos.endLine == cpos.line) = true := by rfl) : wE X (.Call (.Attribute o "pop" apos) [] [] cpos) σ H Q :=
  e_bm0 PySem.F.plainAttrs_list PySem.F.slot_list_pop PySem.F.type_list_pop (wE_mono (fun x H1 ⟨a, xs, y, e1, hH, hy, q⟩ => by subst e1; exact ⟨ty_lst hH, goM mt_pop ⟨a, xs, y, rfl, rfl, hH, hy, q⟩⟩) h) hbase hline
/-- two lists put together -/
theorem o_catL {a b : Addr} {xs ys : List V} (ha : H a = some (.lst xs)) (hb : H b = some (.lst ys)) (hl : xs.length + ys.length ≤ sizeLine) (h : ∀ p, H p = none → Q (.ref p) (upd H p (.lst (xs ++ ys)))) : wOp X (binaryOp .Add) (.ref a) (.ref b) H Q := goOp op_cat ⟨a, b, xs, ys, rfl, rfl, ha, hb, hl, h⟩
end
/-! ### another pattern of the same kind -/
theorem adj_of : ∀ {ps qs : List Str}, ps.map isField = qs.map isField → adj ps = adj qs
  | [], [], _ => rfl
  | [], _ :: _, h => by simp at h
  | _ :: _, [], h => by simp at h
  | [p], [q], _ => rfl
  | [p], q :: r :: qs, h => by simp at h
  | p :: r :: ps, [q], h => by simp at h
  | p :: p' :: ps, q :: q' :: qs, h => by
    rw [List.map_cons, List.map_cons] at h
    injection h with h1 h2
    have ih := adj_of (ps := p' :: ps) (qs := q' :: qs) h2
    injection h2 with h2 h3
    rw [adj_cons, adj_cons, ih, h1, h2]
def like (p q : Str) : Prop := isField p = isField q ∧ (q ∈ fields ∨ q ∈ lits)
theorem like_map {ps qs : List Str} (h : Paired like ps qs) : ps.map isField = qs.map isField ∧ ∀ q ∈ qs, q ∈ fields ∨ q ∈ lits := by
  induction h with
  | nil => exact ⟨rfl, fun q hq => by cases hq⟩
  | cons r t ih =>
    refine ⟨by rw [List.map_cons, List.map_cons, r.1, ih.1], fun q hq => ?_⟩
    rcases List.mem_cons.mp hq with rfl | hq
    · exact r.2
    · exact ih.2 q hq
theorem like_pat {n : Nat} {ps qs : List Str} (hp : LPat n ps) (h : Paired like ps qs) : LPat n qs := by
  have hm := like_map h
  have hl := Paired.length h
  exact ⟨⟨hm.2, by rw [← adj_of hm.1]; exact hp.1.2⟩, by rw [← hl]; exact hp.2.1, by rw [← hl]; exact hp.2.2⟩
theorem LPat.mono {m n : Nat} {ps : List Str} (h : LPat m ps) (hm : m ≤ n) : LPat n ps := ⟨h.1, h.2.1, Nat.le_trans h.2.2 hm⟩
def nF (ps : List Str) : Nat := (ps.filter isField).length
theorem last_mem {l : List Str} {y : V} (h : (l.map V.str)[(l.map V.str).length - 1]? = some y) : ∃ z ∈ l, y = .str z := by
  rw [List.getElem?_map] at h
  cases e : l[(l.map V.str).length - 1]? with
  | none => rw [e] at h; cases h
  | some z => rw [e] at h; exact ⟨z, List.mem_of_getElem? e, (Option.some.inj h).symm⟩
section
variable {K : PySem.W.Frag} {H : Hp} {Q : VK} {E : XK} {a t : Addr} {ns : List Int} {v u o : V} {ps qs : List Str} {y0 y1 : Int}
def sp_lother (K : PySem.W.Frag) : Sp := fun vs H Q _ => ∃ a ns t v ps, vs = [.ref a, .ref t, v] ∧ Law0 K H a t ns ∧ StrsV K H ps v ∧ LPat 5 ps ∧ ∀ p qs H', Bt t H H' → TownAt H' t → SqT K H' p (qs.map V.str) → LPat 5 qs → Q (.ref p) H'
theorem u_lother (h : Law0 K H a t ns) (hp : StrsV K H ps v) (hl : LPat 5 ps) (q : ∀ p qs H', Bt t H H' → TownAt H' t → SqT K H' p (qs.map V.str) → LPat 5 qs → Q (.ref p) H') : sp_lother K [.ref a, .ref t, v] H Q E := ⟨a, ns, t, v, ps, rfl, h, hp, hl, q⟩
/-! ### confused -/
def conf1 (f g : Dt → Str) (ds : List Dt) (d : Dt) : List Dt := (ds.filter fun z => decide (g z = f d)).filter fun z => !decide (z = d)
def confOf (f g : Dt → Str) (ds : List Dt) : Option (Dt × Dt) := ds.findSome? fun d => (conf1 f g ds d).head?.map fun e => (d, e)
def sp_confused (K : PySem.W.Frag) : Sp := fun vs H Q _ => ∃ v ps o qs u a b, vs = [v, o, u] ∧ (StrsV K H ps v ∧ small ps ∧ isPat ps = true) ∧ (StrsV K H qs o ∧ small qs ∧ isPat qs = true) ∧ SpanV K H a b u ∧ isSp a b = true ∧ RetO K (fun r => r = confOf (wr ps) (wr qs) (datesIn a b)) H Q
theorem u_confused (hp : StrsV K H ps v) (hs : small ps) (hi : isPat ps = true) (hp2 : StrsV K H qs o) (hs2 : small qs) (hi2 : isPat qs = true) (hd : SpanV K H y0 y1 u) (h : isSp y0 y1 = true) (q : RetO K (fun r => r = confOf (wr ps) (wr qs) (datesIn y0 y1)) H Q) : sp_confused K [v, o, u] H Q E := ⟨v, ps, o, qs, u, y0, y1, rfl, ⟨hp, hs, hi⟩, ⟨hp2, hs2, hi2⟩, hd, h, q⟩
end
theorem find_split {α β : Type} {f : α → Option β} {l : List α} {n : Nat} {a : α} {b : β} (ha : l[n]? = some a) (h0 : (l.take n).findSome? f = none) (hb : f a = some b) : l.findSome? f = some b := by
  have e : l = l.take n ++ a :: l.drop (n + 1) := by
    have := List.take_append_drop n l
    have h2 := (List.getElem?_eq_some_iff.mp ha)
    rw [List.drop_eq_getElem_cons h2.1, h2.2] at this
    exact this.symm
  rw [e, List.findSome?_append, h0]
  simp [hb]
theorem find_step {α β : Type} {f : α → Option β} {l : List α} {n : Nat} {a : α} (ha : l[n]? = some a) (h0 : (l.take n).findSome? f = none) (hb : f a = none) : (l.take (n + 1)).findSome? f = none := by
  rw [List.take_add_one, ha, List.findSome?_append, h0]
  simp [hb]
section
variable {X : Cx} {P : Program} {w : World} {K : PySem.W.Frag} {mg : Str → Option Value} {base : Heap} {N : List Str} {sc : Scope} {k : Nat} {lv : Bool}
variable {σ : L2.St} {H : Hp} {pos : Pos} {e tg : Expr} {nx : L2.St → Hp → Prop} {rt : VK} {bk ct : L2.St → Hp → Prop}
/-- a cell gets a list that is made -/
theorem s_asgC (C : Kx X P w K mg base N sc k lv) (h : wE X e σ H fun x H1 => wG X tg x σ H1 nx) (hs : ∀ env : Env, env.scope = sc → swapsWithSole [tg] e pos.line env = pure false := by intro env h; cases env; cases h; rfl) (hw : swappedStores [tg] e X.env = pure none := by rfl) (h1 : (assignEach [tg] X.env).map (·.2) = [assign tg X.env] := by rfl) :
    wS X (.Assign [tg] e pos) nx rt bk ct σ H := s_asg h (hs _ C.esc) hw h1
end
theorem cut_from1 (l : List Str) : cutV (l.map V.str) (some 1) none = (l.drop 1).map V.str := by
  unfold cutV
  rw [show (1 : Int) = ((1 : Nat) : Int) from rfl, HT.sIx_nat, HT.sIx_none, List.length_map, List.map_drop]
  cases l with
  | nil => rfl
  | cons a l =>
    rw [show min 1 (a :: l).length = 1 by simp]
    rw [List.take_of_length_le (by simp)]
theorem cut_to1 (l : List Str) : cutV (l.map V.str) none (some 1) = (l.take 1).map V.str := by
  unfold cutV
  rw [show (1 : Int) = ((1 : Nat) : Int) from rfl, HT.sIx_nat, HT.sIx_none, List.length_map, List.drop_zero, Nat.sub_zero, List.map_take]
  cases l with
  | nil => rfl
  | cons a l => rw [show min 1 (a :: l).length = 1 by simp]
theorem nF_drop {ps : List Str} {m : Nat} {p : Str} (h : ps[m]? = some p) : nF (ps.drop m) = (if isField p = true then 1 else 0) + nF (ps.drop (m + 1)) := by
  have h2 := List.getElem?_eq_some_iff.mp h
  unfold nF
  rw [List.drop_eq_getElem_cons h2.1, h2.2, List.filter_cons]
  split <;> simp <;> omega
/-! ### a table that grows -/
structure BookV (K : PySem.W.Frag) (H0 H : Hp) (dd : Addr) (t : Tb) (kvs : List (Key × V)) : Prop where
  hb : Bt dd H0 H
  hdd : H dd = some (.dK kvs)
  htb : TblV K H t kvs
  hnd : (kvs.map (·.2)).Nodup
  hfr : ∀ l, V.ref l ∈ kvs.map (·.2) → H0 l = none
theorem nd_snoc2 {l : List V} {v : V} (h : l.Nodup) (hv : ¬ v ∈ l) : (l ++ [v]).Nodup := by
  rw [List.nodup_append]
  exact ⟨h, by simp, fun a ha b hb e => hv (by rw [List.mem_singleton.mp hb] at e; rw [← e]; exact ha)⟩
section
variable {K : PySem.W.Frag} {H0 H H' : Hp} {dd l l0 : Addr} {t : Tb} {kvs : List (Key × V)} {k : Str} {d : Dt} {x : V} {ys : List V}
theorem BookV.ex (h : BookV K H0 H dd t kvs) (e : Ex H H') : BookV K H0 H' dd t kvs := ⟨h.hb.trans (Bt.of e), e _ _ h.hdd, h.htb.ex e, h.hnd, h.hfr⟩
theorem BookV.new (h : BookV K H0 H dd t kvs) (hn : valV kvs (Sum.inr k : Key) = none) (htn : tGet t k = none) (nl0 : H l0 = none) (hd : DateV K H d x) :
    BookV K H0 (upd (upd (upd H l0 (.lst [])) dd (.dK (putK kvs (Sum.inr k : Key) (.ref l0)))) l0 (.lst ([] ++ [x]))) dd (tAdd k d t) (putK kvs (Sum.inr k : Key) (.ref l0)) := by
  have hl0d : dd ≠ l0 := ne_of_none h.hdd nl0
  have hdd3 : upd H l0 (.lst []) dd = some (.dK kvs) := by rw [upd_ne hl0d]; exact h.hdd
  have hput : putK kvs (Sum.inr k : Key) (.ref l0) = kvs ++ [(Sum.inr k, .ref l0)] := putK_new _ hn
  have hl01 : H0 l0 = none := by
    cases e : H0 l0 with
    | none => rfl
    | some o => rw [h.hb _ _ hl0d.symm e] at nl0; cases nl0
  have tk3 : Tk H (upd (upd (upd H l0 (.lst [])) dd (.dK (putK kvs (Sum.inr k : Key) (.ref l0)))) l0 (.lst ([] ++ [x]))) := Tk.trans (Tk.of (Ex.new nl0)) (Tk.trans (Tk.dk hdd3) (Tk.lst (by rw [upd_ne hl0d.symm, upd_same])))
  refine ⟨?_, by rw [upd_ne hl0d, upd_same], ?_, ?_, ?_⟩
  · intro c o hc hco
    have hcl : c ≠ l0 := fun z => by rw [z, hl01] at hco; cases hco
    rw [upd_ne hcl, upd_ne hc, upd_ne hcl]
    exact h.hb _ _ hc hco
  · rw [tAdd_new htn, hput]
    refine paired_app ?_ (.cons ⟨rfl, l0, [] ++ [x], rfl, upd_same, .cons (hd.tk (by rw [← hput]; exact tk3)) .nil⟩ .nil)
    refine Paired.mapP h.htb fun e kv hq => ?_
    obtain ⟨e1, l, zs, e2, e3, e4⟩ := hq
    have hll : l ≠ l0 := ne_of_none e3 nl0
    have hld : l ≠ dd := fun z => by rw [z, h.hdd] at e3; cases e3
    refine ⟨e1, l, zs, e2, ?_, e4.tk (by rw [← hput]; exact tk3)⟩
    rw [upd_ne hll, upd_ne hld, upd_ne hll]
    exact e3
  · rw [hput, List.map_append]
    refine nd_snoc2 h.hnd fun hm => ?_
    obtain ⟨kv, hkv, ekv⟩ := List.mem_map.mp hm
    obtain ⟨n2, hn2⟩ := List.getElem?_of_mem hkv
    obtain ⟨e, he, e1, l, zs, e2, e3, e4⟩ := paired_ix' h.htb hn2
    have : l = l0 := by rw [ekv] at e2; injection e2 with e2; exact e2.symm
    rw [this, nl0] at e3
    cases e3
  · intro l hl
    rw [hput, List.map_append, List.mem_append] at hl
    rcases hl with hl | hl
    · exact h.hfr l hl
    · have : l = l0 := by simpa using hl
      rw [this]
      exact hl01
theorem BookV.old (h : BookV K H0 H dd t kvs) (hn : valV kvs (Sum.inr k : Key) = some (.ref l)) (hl : H l = some (.lst ys)) (hd : DateV K H d x) : BookV K H0 (upd H l (.lst (ys ++ [x]))) dd (tAdd k d t) kvs := by
  have hl1 := h.hfr l (TblV.grow.valV_mem hn)
  have hld : dd ≠ l := fun z => by rw [← z, h.hdd] at hl; cases hl
  refine ⟨fun c o hc hco => ?_, by rw [upd_ne hld]; exact h.hdd, TblV.grow hl hd h.htb h.hnd hn, h.hnd, h.hfr⟩
  have hcl : c ≠ l := fun z => by rw [z, hl1] at hco; cases hco
  rw [upd_ne hcl]
  exact h.hb _ _ hc hco
end
theorem rows_at {y0 y1 : Int} {n : Nat} {d : Dt} {m : Int} (hr : (rowsIn y0 y1)[n]? = some (d, m)) : (datesIn y0 y1)[n]? = some d := by
  unfold rowsIn at hr
  rw [List.getElem?_map] at hr
  cases hz : (datesIn y0 y1)[n]? with
  | none => rw [hz] at hr; cases hr
  | some z => rw [hz] at hr; cases hr; rfl
end DP
set_option Elab.async false
set_option linter.all false
set_option maxRecDepth 100000
set_option maxHeartbeats 1000000
namespace DP
open PySem L2
section
variable {X : Cx} {P : Program} {w : World} {K : PySem.W.Frag} {mg : Str → Option Value} {base : Heap} {N : List Str} {sc : Scope} {k : Nat} {lv : Bool}
variable {H : Hp} {Q : VK} {v u : V} {d e : Dt}
theorem alike_dD (d e : Dt) : PySem.W.alike (dD d) (dD e) = true := by simp [dD, PySem.W.alike, PySem.W.alikeAll]
theorem dep_dD (d : Dt) : (dD d).depth ≤ 1 := (sh_dD 0 d).2
theorem o_gtDt (C : Kx X P w K mg base N sc k lv) (hd : DateV K H d v) (he : DateV K H e u) (h : Q (.bl (decide (dlt e d))) H) : wOp X (compareOp .Gt) v u H Q := by
  have e3 := C.eK; subst e3
  refine ⟨fun pins s σ v' u' I rx ry => ?_⟩
  obtain ⟨as, ra⟩ := Dp.reads I (dD d) _ _ (dp_date hd) rx
  obtain ⟨bs, rb⟩ := Dp.reads I (dD e) _ _ (dp_date he) ry
  exact PySem.W.gt_data ra rb (alike_dD d e) (fun z => by cases z) (by have := C.room.un; have := dep_dD d; have := Nat.min_le_left (dD d).depth (dD e).depth; omega) ⟨.bl _, H, I, rfl, by rw [dataLt_dD]; exact h⟩
theorem o_leDt (C : Kx X P w K mg base N sc k lv) (hd : DateV K H d v) (he : DateV K H e u) (h : Q (.bl (!decide (dlt e d))) H) : wOp X (compareOp .LtE) v u H Q := by
  have e3 := C.eK; subst e3
  refine ⟨fun pins s σ v' u' I rx ry => ?_⟩
  obtain ⟨as, ra⟩ := Dp.reads I (dD d) _ _ (dp_date hd) rx
  obtain ⟨bs, rb⟩ := Dp.reads I (dD e) _ _ (dp_date he) ry
  exact PySem.W.le_data ra rb (alike_dD d e) (fun z => by cases z) (by have := C.room.un; have := dep_dD d; have := Nat.min_le_left (dD d).depth (dD e).depth; omega) ⟨.bl _, H, I, rfl, by rw [dataLt_dD]; exact h⟩
end
/-! ### confusions, plainly -/
theorem conf1_mem {f g : Dt → Str} {ds : List Dt} {d e : Dt} : e ∈ conf1 f g ds d ↔ e ∈ ds ∧ g e = f d ∧ e ≠ d := by
  unfold conf1
  simp [List.mem_filter, and_assoc]
  intro _
  exact And.comm
theorem confOf_none {f g : Dt → Str} {ds : List Dt} : confOf f g ds = none ↔ ∀ d ∈ ds, ∀ e ∈ ds, g e = f d → e = d := by
  unfold confOf
  rw [List.findSome?_eq_none_iff]
  constructor
  · intro h d hd e he hg
    by_cases hz : e = d
    · exact hz
    · have h1 := h d hd
      have hm : e ∈ conf1 f g ds d := conf1_mem.mpr ⟨he, hg, hz⟩
      cases hc : conf1 f g ds d with
      | nil => rw [hc] at hm; cases hm
      | cons a r => rw [hc] at h1; cases h1
  · intro h d hd
    cases hc : conf1 f g ds d with
    | nil => rfl
    | cons a r =>
      have hm : a ∈ conf1 f g ds d := by rw [hc]; exact List.mem_cons_self ..
      obtain ⟨h1, h2, h3⟩ := conf1_mem.mp hm
      exact absurd (h d hd a h1 h2) h3
theorem confOf_some {f g : Dt → Str} {ds : List Dt} {d e : Dt} (hs : ds.Pairwise dlt) (h : confOf f g ds = some (d, e)) : d ∈ ds ∧ (conf1 f g ds d).head? = some e ∧ ∀ d' ∈ ds, ∀ e' ∈ ds, g e' = f d' → e' ≠ d' → ¬ dlt d' d := by
  unfold confOf at h
  rw [List.findSome?_eq_some_iff] at h
  obtain ⟨l1, a, l2, hl, ha, hno⟩ := h
  cases hh : (conf1 f g ds a).head? with
  | none => rw [hh] at ha; cases ha
  | some e' =>
    rw [hh] at ha
    have ha : (a, e') = (d, e) := Option.some.inj ha
    cases ha
    refine ⟨by rw [hl]; simp, hh, fun d' hd' e' he' hg hne hlt => ?_⟩
    have hm : e' ∈ conf1 f g ds d' := conf1_mem.mpr ⟨he', hg, hne⟩
    have hin : d' ∈ l1 := by
      rw [hl] at hd' hs
      rcases List.mem_append.mp hd' with h | h
      · exact h
      · rw [List.pairwise_append, List.pairwise_cons] at hs
        rcases List.mem_cons.mp h with rfl | h
        · exact absurd hlt (dlt_irrefl _)
        · exact absurd hlt (dlt_asymm (hs.2.1.1 _ h))
    have := hno d' hin
    cases hc : conf1 f g ds d' with
    | nil => rw [hc] at hm; cases hm
    | cons b r => rw [hc] at this; simp at this
theorem conf_head {f g : Dt → Str} {ds : List Dt} {d e : Dt} (h : (conf1 f g ds d).head? = some e) : e ∈ ds ∧ g e = f d ∧ e ≠ d := conf1_mem.mp (List.mem_of_head? h)
theorem conf_sym {f g : Dt → Str} {ds : List Dt} : confOf f g ds = none ↔ confOf g f ds = none := by
  rw [confOf_none, confOf_none]
  exact ⟨fun h d hd e he hg => (h e he d hd hg.symm).symm, fun h d hd e he hg => (h e he d hd hg.symm).symm⟩
theorem conf_nodup {f : Dt → Str} {ds : List Dt} (hn : ds.Nodup) : confOf f f ds = none ↔ (ds.map f).Nodup := by
  rw [confOf_none]
  induction ds with
  | nil => simp
  | cons a ds ih =>
    rw [List.nodup_cons] at hn
    rw [List.map_cons, List.nodup_cons, ← ih hn.2]
    constructor
    · intro h
      refine ⟨fun hm => ?_, fun d hd e he hg => h d (List.mem_cons_of_mem _ hd) e (List.mem_cons_of_mem _ he) hg⟩
      obtain ⟨x, hx, hf⟩ := List.mem_map.mp hm
      have := h a (List.mem_cons_self ..) x (List.mem_cons_of_mem _ hx) hf
      exact hn.1 (this ▸ hx)
    · rintro ⟨h1, h2⟩ d hd e he hg
      rcases List.mem_cons.mp hd with e1 | hd
      · rcases List.mem_cons.mp he with e2 | he
        · rw [e1, e2]
        · exact absurd (List.mem_map.mpr ⟨e, he, by rw [hg, e1]⟩) h1
      · rcases List.mem_cons.mp he with e2 | he
        · exact absurd (List.mem_map.mpr ⟨d, hd, by rw [← hg, e2]⟩) h1
        · exact h2 d hd e he hg
theorem clash_ex (f : Dt → Str) : ∀ ds : List Dt, ∃ o, Clash f ds o := by
  refine snoc_ind (P := fun ds => ∃ o, Clash f ds o) ⟨none, clash_nil⟩ fun ds d ⟨o, ho⟩ => ?_
  cases o with
  | some p => exact ⟨_, ho.old⟩
  | none =>
    cases h : ds.find? (fun x => decide (f x = f d)) with
    | none => exact ⟨_, ho.same h⟩
    | some e => exact ⟨_, ho.new h⟩
theorem clash_iff {f : Dt → Str} {ds : List Dt} {o : Option (Dt × Dt)} (h : Clash f ds o) : o = none ↔ (ds.map f).Nodup := by
  rcases h with ⟨h1, h2⟩ | ⟨e, d, rfl, p1, p2, rfl, h2, h3⟩
  · exact ⟨fun _ => h2, fun _ => h1⟩
  · refine ⟨fun h => (by cases h), fun h => ?_⟩
    have hm := List.mem_of_find?_eq_some h3
    have he : f e = f d := by simpa using List.find?_some h3
    rw [List.map_append, List.nodup_append] at h
    exact absurd he (h.2.2 (f e) (List.mem_map.mpr ⟨e, hm, rfl⟩) (f d) (by simp))
theorem dates_wide (y : Int) : ∃ r, datesIn y (y + 1) = datesIn y y ++ r := by
  unfold datesIn
  have e1 : (y + 1 + 1 - y).toNat = 2 := by omega
  have e2 : (y + 1 - y).toNat = 1 := by omega
  rw [e1, e2]
  exact ⟨yearDays (y + 1), by simp [List.range_succ]⟩
theorem dates_sub {y : Int} {d : Dt} (h : d ∈ datesIn y y) : d ∈ datesIn y (y + 1) := by
  obtain ⟨r, hr⟩ := dates_wide y
  rw [hr]
  exact List.mem_append_left _ h
theorem opt_non {K : PySem.W.Frag} {H : Hp} {o : Option (Dt × Dt)} {v : V} (h : OptV K H o v) : decide (v = .non) = o.isNone := by
  cases o with
  | none => rw [show v = .non from h]; rfl
  | some p => obtain ⟨a, _, _, rfl, _⟩ := h; rfl
end DP
set_option Elab.async false
set_option linter.all false
set_option maxRecDepth 100000
set_option maxHeartbeats 1000000
namespace DP
open PySem L2 PyProof.Rows
/-- three lists as they stand at each turn, the items in new tuples -/
def Itz3 (K : PySem.W.Frag) (a b c : Addr) : It :=
  ⟨fun i H => ∃ (xs ys zs : List V) (x y z : V), SqL K H a xs ∧ SqL K H b ys ∧ SqL K H c zs ∧ xs[i]? = some x ∧ ys[i]? = some y ∧ zs[i]? = some z,
    fun i H v H' => ∃ T x y z, v = .ref T ∧ H T = none ∧ H' = upd H T (.tup [x, y, z]) ∧ (∀ xs, SqL K H a xs → xs[i]? = some x) ∧ (∀ ys, SqL K H b ys → ys[i]? = some y) ∧ ∀ zs, SqL K H c zs → zs[i]? = some z,
    fun i H => ∃ xs ys zs : List V, SqL K H a xs ∧ SqL K H b ys ∧ SqL K H c zs ∧ (i ≤ xs.length ∧ i ≤ ys.length ∧ i ≤ zs.length) ∧ (i = xs.length ∨ i = ys.length ∨ i = zs.length)⟩
theorem turn_zip3 {P : Program} {w : World} {K : PySem.W.Frag} {elts : List Expr} {kk : Nat} {tpos : Pos} {a b c z TI TO i1 i2 i3 : Addr} (D : ZipSep3 z TI TO i1 i2 i3 [i1, a] [i2, b] [i3, c]) (ha : a ≠ i1) (hb : b ≠ i2) (hc3 : c ≠ i3) :
    Turn P w K (.Tuple elts kk tpos) (Itz3 K a b c) [z, TI, TO, i1, i2, i3] z (fun i h => IsZip h z TI TO .none ∧ IsTupOf3 h TI (.ref i1) (.ref i2) (.ref i3) ∧ (∃ x y u, IsTupOf3 h TO x y u) ∧ h.IsListIter i1 a i ∧ h.IsListIter i2 b i ∧ h.IsListIter i3 c i) where
  mem := by simp
  obj := fun i h st c' hc => by
    obtain ⟨hz, hTI, ⟨x, y, u, hTO⟩, ⟨o1, e1, _, d1⟩, ⟨o2, e2, _, d2⟩, ⟨o3, e3, _, d3⟩⟩ := st
    have e' : c' = z ∨ c' = TI ∨ c' = TO ∨ c' = i1 ∨ c' = i2 ∨ c' = i3 := by simpa using hc
    rcases e' with q | q | q | q | q | q
    · rw [q]; exact ⟨_, hz, fun v q => nomatch q⟩
    · rw [q]; exact ⟨_, hTI, fun v q => nomatch q⟩
    · rw [q]; exact ⟨_, hTO, fun v q => nomatch q⟩
    · rw [q]; exact ⟨o1, e1, fun v q => by rw [d1] at q; cases q⟩
    · rw [q]; exact ⟨o2, e2, fun v q => by rw [d2] at q; cases q⟩
    · rw [q]; exact ⟨o3, e3, fun v q => by rw [d3] at q; cases q⟩
  keep := fun i h h' st k => by
    obtain ⟨hz, hTI, ⟨x, y, u, hTO⟩, h1, h2, h3⟩ := st
    exact ⟨k z (by simp) _ hz, k TI (by simp) _ hTI, ⟨x, y, u, k TO (by simp) _ hTO⟩, h1.at fun o q => k i1 (by simp) o q, h2.at fun o q => k i2 (by simp) o q, h3.at fun o q => k i3 (by simp) o q⟩
  item := by
    intro X hP hw hK hc i pins s σ H E I hf st hg
    subst hP hw hK
    obtain ⟨hz, hTI, ⟨x0, y0, w0, hTO⟩, h1, h2, h3⟩ := st
    obtain ⟨xs, ys, zs, x, y, zz, hqx, hqy, hqz, hx, hy, hzz⟩ := hg
    obtain ⟨its, rv, p, _⟩ := I.list hqx
    obtain ⟨its2, rv2, p2, _⟩ := I.list hqy
    obtain ⟨its3, rv3, p3, _⟩ := I.list hqz
    obtain ⟨u, hu, ru⟩ := rv.get hx
    obtain ⟨u2, hu2, ru2⟩ := rv2.get hy
    obtain ⟨u3, hu3, ru3⟩ := rv3.get hzz
    have hzl : z < s.heap.objs.size := Heap.lt_size hz
    have hh := I.ok.hd hc
    have l1 : i < its.toArray.size := by have := (List.getElem?_eq_some_iff.mp hu).1; simpa using this
    have l2 : i < its2.toArray.size := by have := (List.getElem?_eq_some_iff.mp hu2).1; simpa using this
    have l3 : i < its3.toArray.size := by have := (List.getElem?_eq_some_iff.mp hu3).1; simpa using this
    refine wpAny_pyNext_zipD3_item D (Draws.list (A := X.A.in1) hh i1 a ha its.toArray) (Draws.list (A := X.A.in1) hh i2 b hb its2.toArray) (Draws.list (A := X.A.in1) hh i3 c hc3 its3.toArray) hz hTI hTO ⟨h1, p.isList⟩ ⟨h2, p2.isList⟩ ⟨h3, p3.isList⟩ l1 l2 l3 fun x1 x2 x3 h' tk e1 e2 e3 z' TO' h1' h2' h3' hT hsz hk => ?_
    have e1 : x1 = u := by have e1 : its[i]? = some x1 := by simpa using e1
                           rw [hu] at e1; exact (Option.some.inj e1).symm
    have e2 : x2 = u2 := by have e2 : its2[i]? = some x2 := by simpa using e2
                            rw [hu2] at e2; exact (Option.some.inj e2).symm
    have e3 : x3 = u3 := by have e3 : its3[i]? = some x3 := by simpa using e3
                            rw [hu3] at e3; exact (Option.some.inj e3).symm
    subst e1 e2 e3
    refine ⟨_, rfl, wpAny_letOwnedTupleGo_zip (s := { s with heap := h', toks := tk }) z' fun h'' z'' sb => ?_⟩
    have hT2 : h''.get? s.heap.objs.size = some { cls := .type "tuple", data := .seq #[x1, x2, x3] } := (sb.2 _ (Nat.ne_of_gt hzl)).trans hT
    have new : ObjOk X.prog X.w (upd H s.heap.objs.size (.tup [x, y, zz])) h'' s.heap.objs.size (.tup [x, y, zz]) :=
      ⟨by show 3 ≤ sizeLine; decide, [x1, x2, x3], .cons ru (.cons ru2 (.cons ru3 .nil)), ⟨_, hT2, rfl, _, rfl⟩⟩
    have I1 : Inv X pins σ (upd H s.heap.objs.size (.tup [x, y, zz])) { s with heap := h'', toks := tk } :=
      I.turnedNew (t' := tk) (ch := [z, TI, TO, i1, i2, i3]) (fun c' o hb q => (sb.2 c' (fun q' => hb (by simp [q']))).trans (hk c' o (fun q' => hb (by simp [q'])) (fun q' => hb (by simp [q'])) (fun q' => hb (by simp [q'])) (fun q' => hb (by simp [q'])) (fun q' => hb (by simp [q'])) q)) hf (Nat.le_refl _) new
    refine ⟨.ref s.heap.objs.size, _, I1, rfl, ⟨_, x, y, zz, rfl, I.hok.fresh (Nat.le_refl _), rfl, fun l hl => by rw [I.list_inj hl hqx]; exact hx, fun l hl => by rw [I.list_inj hl hqy]; exact hy, fun l hl => by rw [I.list_inj hl hqz]; exact hzz⟩, ⟨z'', ?_, ⟨x1, x2, x3, ?_⟩, ?_, ?_, ?_⟩, fun c' hcm => ?_⟩
    · exact (sb.2 _ D.TIz).trans (hk _ _ D.TIz D.TITO D.TIi1 D.TIi2 D.TIi3 hTI)
    · exact (sb.2 _ D.TOz).trans TO'
    · exact h1'.1.at fun o q => (sb.2 _ D.zi1.symm).trans q
    · exact h2'.1.at fun o q => (sb.2 _ D.zi2.symm).trans q
    · exact h3'.1.at fun o q => (sb.2 _ D.zi3.symm).trans q
    · have hlt : c' < s.heap.objs.size := by
        have e' : c' = z ∨ c' = TI ∨ c' = TO ∨ c' = i1 ∨ c' = i2 ∨ c' = i3 := by simpa using hcm
        rcases e' with q | q | q | q | q | q
        · rw [q]; exact hzl
        · rw [q]; exact Heap.lt_size hTI
        · rw [q]; exact Heap.lt_size hTO
        · rw [q]; obtain ⟨_, e1, _⟩ := h1; exact Heap.lt_size e1
        · rw [q]; obtain ⟨_, e2, _⟩ := h2; exact Heap.lt_size e2
        · rw [q]; obtain ⟨_, e3, _⟩ := h3; exact Heap.lt_size e3
      rw [upd_ne (Nat.ne_of_lt hlt)]
      exact (hf c' hcm).1
  done := by
    intro X hP hw hK hc i pins s σ H E I hf st hg
    subst hP hw hK
    obtain ⟨hz, hTI, ⟨x0, y0, w0, hTO⟩, h1, h2, h3⟩ := st
    obtain ⟨xs, ys, zs, hqx, hqy, hqz, hle, hend⟩ := hg
    obtain ⟨its, rv, p, _⟩ := I.list hqx
    obtain ⟨its2, rv2, p2, _⟩ := I.list hqy
    obtain ⟨its3, rv3, p3, _⟩ := I.list hqz
    have l1 := rv.length
    have l2 := rv2.length
    have l3 := rv3.length
    have hh := I.ok.hd hc
    refine wpAny_pyNext_zipD3_end D (Draws.list (A := X.A.in1) hh i1 a ha its.toArray) (Draws.list (A := X.A.in1) hh i2 b hb its2.toArray) (Draws.list (A := X.A.in1) hh i3 c hc3 its3.toArray) hz hTI hTO ⟨h1, p.isList⟩ ⟨h2, p2.isList⟩ ⟨h3, p3.isList⟩ (by simp; omega) (by simp; omega) (by simp; omega) (by simp; omega) fun h' tk hk => ⟨rfl, I.turnedL (t' := tk) (ch := [z, TI, TO, i1, i2, i3]) (fun c' o hb q =>
      hk c' o (fun q' => hb (by simp [q'])) (fun q' => hb (by simp [q'])) (fun q' => hb (by simp [q'])) (fun q' => hb (by simp [q'])) (fun q' => hb (by simp [q'])) q) hf⟩
  self := fun A i s Q E st h => wpAny_pyIter_zip st.1 h
def iZip3 (K : PySem.W.Frag) (ta : TA) : TI := fun σ H R => ta σ H fun vs H1 => ∃ a b c xs ys zs, vs = [.ref a, .ref b, .ref c] ∧ SqL K H1 a xs ∧ SqL K H1 b ys ∧ SqL K H1 c zs ∧ R (Itz3 K a b c) H1
theorem pi_zip3 {X : Cx} {e e2 e3 : Expr} {ta : TA} {p pos tpos : Pos} {elts : List Expr} {kk : Nat} (hg : Gl X "zip") (hm : X.mg "zip" = none) (ha : PA X [e, e2, e3] ta)
    (hs : starEach [e, e2, e3] X.env = (false, eval e X.env) :: starEach [e2, e3] X.env := by rfl) (hpl : (backTo pos (starEach [e2, e3] X.env)).any (·.1) = false := by rfl) :
    PI X (.Tuple elts kk tpos) (.Call (.Name "zip" p) [e, e2, e3] [] pos) (iZip3 X.K ta) := by
  refine ⟨fun pins s σ H R I h => ?_⟩
  refine Call_ (ld_blt I hg hm PyProof.Rows.boot_zip (PyProof.Rows.callWith_type1 (thn (ha.run pos pins s σ H _ I h) fun us s1 ⟨vs, H1, I1, r1, q1⟩ => ?_) hs hpl))
  obtain ⟨a, b, c, xs, ys, zs, ex, hqx, hqy, hqz, q⟩ := q1
  subst ex
  cases r1 with
  | cons r rr =>
    cases rr with
    | cons r' rr =>
      cases rr with
      | cons r'' rr =>
        cases rr
        cases r
        cases r'
        cases r''
        obtain ⟨its, rv, p1, _⟩ := I1.list hqx
        obtain ⟨its2, rv2, p2, _⟩ := I1.list hqy
        obtain ⟨its3, rv3, p3, _⟩ := I1.list hqz
        have la : a < s1.heap.objs.size := p1.lt
        have lb : b < s1.heap.objs.size := p2.lt
        have lc : c < s1.heap.objs.size := p3.lt
        refine zip_begins3 (begins_list a its.toArray) (begins_list b its2.toArray) (begins_list c its3.toArray) p1.isList p2.isList p3.isList fun h' hz hTI hTO h1 h2 h3 hsz hk => wpAny_pyIter_zip hz ?_
        have I2 : Inv X pins σ H1 { s1 with heap := h' } := I1.kept (t' := s1.toks) hk
        refine ⟨s1.heap.objs.size + 5, [s1.heap.objs.size + 5, s1.heap.objs.size + 3, s1.heap.objs.size + 4, s1.heap.objs.size, s1.heap.objs.size + 1, s1.heap.objs.size + 2], _, _, H1, rfl, I2, turn_zip3 (zip_sep3 (N := s1.heap.objs.size) (fp1 := [a]) (fp2 := [b]) (fp3 := [c]) (by simpa using la) (by simpa using lb) (by simpa using lc)) (Nat.ne_of_lt la) (Nat.ne_of_lt (Nat.lt_succ_of_lt lb)) (Nat.ne_of_lt (Nat.lt_succ_of_lt (Nat.lt_succ_of_lt lc))), ⟨hz, hTI, ⟨_, _, _, hTO⟩, ⟨_, h1, rfl, rfl⟩, ⟨_, h2, rfl, rfl⟩, ⟨_, h3, rfl, rfl⟩⟩, fun c' hcm => ?_, q⟩
        have hle : s1.heap.objs.size ≤ c' := by
          have e' : c' = s1.heap.objs.size + 5 ∨ c' = s1.heap.objs.size + 3 ∨ c' = s1.heap.objs.size + 4 ∨ c' = s1.heap.objs.size ∨ c' = s1.heap.objs.size + 1 ∨ c' = s1.heap.objs.size + 2 := by simpa using hcm
          rcases e' with z | z | z | z | z | z
          · rw [z]; exact Nat.le_add_right _ _
          · rw [z]; exact Nat.le_add_right _ _
          · rw [z]; exact Nat.le_add_right _ _
          · rw [z]; exact Nat.le_refl _
          · rw [z]; exact Nat.le_add_right _ _
          · rw [z]; exact Nat.le_add_right _ _
        exact I1.fpOk hle (I1.hok.fresh hle)
def YTri (xs ys zs : List V) : Nat → Hp → V → Hp → Prop := fun i H v H' => ∃ T x y z, v = .ref T ∧ H T = none ∧ H' = upd H T (.tup [x, y, z]) ∧ xs[i]? = some x ∧ ys[i]? = some y ∧ zs[i]? = some z
theorem walk_zip3 {K : PySem.W.Frag} {a b c : Addr} {xs ys zs : List V} {n : Nat} (hn : n = min (min xs.length ys.length) zs.length) : Walk (Itz3 K a b c) n (fun H => SqL K H a xs ∧ SqL K H b ys ∧ SqL K H c zs) (YTri xs ys zs) := by
  subst hn
  refine ⟨fun i _ hi q => ?_, fun _ q => ⟨xs, ys, zs, q.1, q.2.1, q.2.2, by omega, by omega⟩, fun i H v H' _ q y => ?_⟩
  · have h1 : i < xs.length := by omega
    have h2 : i < ys.length := by omega
    have h3 : i < zs.length := by omega
    exact ⟨xs, ys, zs, xs[i], ys[i], zs[i], q.1, q.2.1, q.2.2, by simp [h1], by simp [h2], by simp [h3]⟩
  · obtain ⟨T, x, z, u, h1, h2, h3, h4, h5, h6⟩ := y
    exact ⟨T, x, z, u, h1, h2, h3, h4 xs q.1, h5 ys q.2.1, h6 zs q.2.2⟩
section
variable {X : Cx} {P : Program} {w : World} {K : PySem.W.Frag} {mg : Str → Option Value} {base : Heap} {N : List Str} {sc : Scope} {k : Nat} {lv : Bool}
variable {σ : L2.St} {H : Hp} {pos p : Pos} {e e2 e3 : Expr} {body : List Stmt} {nx : L2.St → Hp → Prop} {rt : VK} {bk ct : L2.St → Hp → Prop}
theorem i_Z3 {R : It → Hp → Prop} {elts : List Expr} {kk : Nat} {tpos : Pos} (C : Kx X P w K mg base N sc k lv) (B : Bn mg) (h : wA X [e, e2, e3] σ H fun vs H1 => ∃ a b c xs ys zs, vs = [.ref a, .ref b, .ref c] ∧ SqL K H1 a xs ∧ SqL K H1 b ys ∧ SqL K H1 c zs ∧ ∀ J, Walk J (min (min xs.length ys.length) zs.length) (fun H => SqL K H a xs ∧ SqL K H b ys ∧ SqL K H c zs) (YTri xs ys zs) → R J H1)
    (hg : sc.names.lookup ("zip" : Str) = some .globalImplicit := by rfl) (hs : starEach [e, e2, e3] X.env = (false, eval e X.env) :: starEach [e2, e3] X.env := by rfl) (hpl : (backTo pos (starEach [e2, e3] X.env)).any (·.1) = false := by rfl) :
    wI X (.Tuple elts kk tpos) (.Call (.Name "zip" p) [e, e2, e3] [] pos) σ H R := by
  have e3' := C.eK; subst e3'
  have e4 := C.emg; subst e4
  exact goI (pi_zip3 (C.gl hg) B.n_zip paW hs hpl) (wA_mono (fun vs H1 ⟨a, b, c, xs, ys, zs, e1, h1, h2, h3, q⟩ => ⟨a, b, c, xs, ys, zs, e1, h1, h2, h3, q _ (walk_zip3 rfl)⟩) h)
/-- for x, y, z in .. -/
theorem s_for3 {iter : Expr} {es : List Expr} {kk : Nat} {tpos : Pos} (C : Kx X P w K mg base N sc k lv)
    (h : wI X (.Tuple es kk tpos) iter σ H fun J H1 => ∃ (n : Nat) (Gd : Hp → Prop) (Y : Nat → Hp → V → Hp → Prop), Walk J n Gd Y ∧ ∃ Pv : Nat → L2.St → Hp → Prop, Pv 0 σ H1 ∧ (∀ i σ' H', Pv i σ' H' → Gd H') ∧
      (∀ i v σ' H' H2, i < n → Pv i σ' H' → Y i H' v H2 → ∃ a v1 v2 v3, v = .ref a ∧ SqT K H2 a [v1, v2, v3] ∧ wGs X es [v1, v2, v3] σ' H2 fun σ2 H3 => wSs X body (Pv (i + 1)) rt nx (Pv (i + 1)) σ2 H3) ∧ (∀ σ' H', Pv n σ' H' → nx σ' H'))
    (hn : (assignEach es X.env).length = 3 := by rfl) (hst : (assignEach es X.env).findIdx? (·.1) = none := by rfl) (hs : ∀ x, foldedSetIterable iter X.env x = pure x := by intro _; rfl) : wS X (.For (.Tuple es kk tpos) iter body [] pos) nx rt bk ct σ H :=
  s_forW C (wI_mono (fun J H1 ⟨n, Gd, Y, wk, Pv, h0, hG, ht, hd⟩ => ⟨n, Gd, Y, wk, Pv, h0, fun i σ' H' _ q => hG i σ' H' q, fun i v σ' H' H2 hi hP hy => by
    obtain ⟨a, v1, v2, v3, e1, hq, q⟩ := ht i v σ' H' H2 hi hP hy
    exact g_tup C e1 hq rfl q hn hst, hd⟩) h) hs
end
end DP
set_option Elab.async false
set_option linter.all false
set_option maxRecDepth 100000
set_option maxHeartbeats 1000000
namespace DP
open PySem L2
section
variable {X : Cx} {H : Hp} {Q : VK} {x y : Str}
theorem c_minI {P : Program} {w : World} {K : PySem.W.Frag} {mg : Str → Option Value} {base : Heap} {N : List Str} {sc : Scope} {k : Nat} {lv : Bool} {a : Addr} (C : Kx X P w K mg base N sc k lv) {ns : List Int} (hq : SqL K H a (ns.map V.int)) (hl : 0 < ns.length) (h : ∀ m, m ∈ ns → (∀ y, y ∈ ns → m ≤ y) → Q (.int m) H) : wC X (.builtin "min") [.ref a] H Q := by
  have e3 := C.eK; subst e3
  exact goC (cr_min C.calm) ⟨a, ns, rfl, hq, hl, h⟩
theorem c_maxI {P : Program} {w : World} {K : PySem.W.Frag} {mg : Str → Option Value} {base : Heap} {N : List Str} {sc : Scope} {k : Nat} {lv : Bool} {a : Addr} (C : Kx X P w K mg base N sc k lv) {ns : List Int} (hq : SqL K H a (ns.map V.int)) (hl : 0 < ns.length) (h : ∀ m, m ∈ ns → (∀ y, y ∈ ns → y ≤ m) → Q (.int m) H) : wC X (.builtin "max") [.ref a] H Q := by
  have e3 := C.eK; subst e3
  exact goC (cr_max C.calm) ⟨a, ns, rfl, hq, hl, h⟩
theorem o_geS (h : Q (.bl (!decide (x.cps.toList < y.cps.toList))) H) : wOp X (compareOp .GtE) (.str x) (.str y) H Q := goOp op_ge_str ⟨x, y, rfl, rfl, h⟩
end
/-! ### unsorted -/
def slt (a b : Str) : Bool := decide (a.cps.toList < b.cps.toList)
def unsAt (f : Dt → Str) (ds : List Dt) (i : Nat) : Option Dt := match ds[i]?, ds[i + 1]? with
  | some d, some e => if slt (f d) (f e) = true then none else some d
  | _, _ => none
/-- the first date whose text is not before the next one's -/
def unsOf (f : Dt → Str) (ds : List Dt) : Option Dt := (List.range (ds.length - 1)).findSome? (unsAt f ds)
def OptD (K : PySem.W.Frag) (H : Hp) : Option Dt → V → Prop
  | none, v => v = .non
  | some d, v => DateV K H d v
theorem OptD.tk {K : PySem.W.Frag} {H H' : Hp} {o : Option Dt} {v : V} (e : Tk H H') (h : OptD K H o v) : OptD K H' o v := by
  cases o with
  | none => exact h
  | some p => exact DateV.tk e h
def odD : Option Dt → PyData
  | none => .none
  | some d => dD d
theorem dp_optD {K : PySem.W.Frag} {H : Hp} {o : Option Dt} {v : V} (h : OptD K H o v) : Dp K H v (odD o) := by
  cases o with
  | none => rw [show v = .non from h]; exact .non
  | some p => exact dp_date h
theorem sh_odD (n : Nat) (o : Option Dt) : sh (n + 1) (odD o) := by
  cases o with
  | none => exact sh_non _
  | some p => exact sh_dD n p
theorem eqv_odD (o : Option Dt) : PyData.eqv (odD o) (odD o) = true := eqv_true (sh_odD 0 o)
/-! ### widths -/
def lens (f : Dt → Str) (ds : List Dt) : List Int := ds.map fun d => ((f d).length : Int)
def Least (m : Int) (l : List Int) : Prop := m ∈ l ∧ ∀ x ∈ l, m ≤ x
def Most (m : Int) (l : List Int) : Prop := m ∈ l ∧ ∀ x ∈ l, x ≤ m
theorem Least.eq {a b : Int} {l : List Int} (h : Least a l) (h2 : Least b l) : a = b := by
  have := h.2 b h2.1
  have := h2.2 a h.1
  omega
theorem Most.eq {a b : Int} {l : List Int} (h : Most a l) (h2 : Most b l) : a = b := by
  have := h.2 b h2.1
  have := h2.2 a h.1
  omega
section
variable {K : PySem.W.Frag} {H : Hp} {Q : VK} {E : XK} {v u : V} {a b : Int} {ps : List Str}
def sp_unsorted (K : PySem.W.Frag) : Sp := fun vs H Q _ => ∃ v ps u a b, vs = [v, u] ∧ StrsV K H ps v ∧ small ps ∧ isPat ps = true ∧ SpanV K H a b u ∧ isSp a b = true ∧ ∀ r H', Ex H H' → OptD K H' (unsOf (wr ps) (datesIn a b)) r → Q r H'
theorem u_unsorted (hp : StrsV K H ps v) (hs : small ps) (hi : isPat ps = true) (hd : SpanV K H a b u) (h : isSp a b = true) (q : ∀ r H', Ex H H' → OptD K H' (unsOf (wr ps) (datesIn a b)) r → Q r H') : sp_unsorted K [v, u] H Q E := ⟨v, ps, u, a, b, rfl, hp, hs, hi, hd, h, q⟩
def sp_widths (K : PySem.W.Frag) : Sp := fun vs H Q _ => ∃ v ps u a b, vs = [v, u] ∧ StrsV K H ps v ∧ small ps ∧ isPat ps = true ∧ SpanV K H a b u ∧ isSp a b = true ∧ ∀ p lo hi H', Ex H H' → SqT K H' p [.int lo, .int hi] → Least lo (lens (wr ps) (datesIn a b)) → Most hi (lens (wr ps) (datesIn a b)) → Q (.ref p) H'
theorem u_widths (hp : StrsV K H ps v) (hs : small ps) (hi : isPat ps = true) (hd : SpanV K H a b u) (h : isSp a b = true) (q : ∀ p lo hi H', Ex H H' → SqT K H' p [.int lo, .int hi] → Least lo (lens (wr ps) (datesIn a b)) → Most hi (lens (wr ps) (datesIn a b)) → Q (.ref p) H') : sp_widths K [v, u] H Q E := ⟨v, ps, u, a, b, rfl, hp, hs, hi, hd, h, q⟩
end
/-- the table's texts are the dates' texts -/
theorem keys_mem {f : Dt → Str} {ds : List Dt} {k : Str} : k ∈ (tblF f ds).map (·.1) ↔ ∃ d ∈ ds, f d = k := by
  constructor
  · intro h
    obtain ⟨e, he, rfl⟩ := List.mem_map.mp h
    have hg := (tGet_tbl f e.1 ds).2
    rw [tGet_mem (tKeys_nodup f ds) he] at hg
    have hg : ds.any (fun d => decide (f d = e.1)) = true := hg.symm
    obtain ⟨d, hd, h2⟩ := List.any_eq_true.mp hg
    exact ⟨d, hd, of_decide_eq_true h2⟩
  · rintro ⟨d, hd, rfl⟩
    exact List.mem_map.mpr ⟨_, tbl_has hd, rfl⟩
def klens (t : Tb) : List Int := t.map fun e => (e.1.length : Int)
theorem klens_mem {f : Dt → Str} {ds : List Dt} {x : Int} : x ∈ klens (tblF f ds) ↔ x ∈ lens f ds := by
  unfold klens lens
  rw [List.mem_map, List.mem_map]
  constructor
  · rintro ⟨e, he, rfl⟩
    obtain ⟨d, hd, h⟩ := keys_mem.mp (List.mem_map.mpr ⟨e, he, rfl⟩)
    exact ⟨d, hd, by rw [h]⟩
  · rintro ⟨d, hd, rfl⟩
    exact ⟨_, tbl_has hd, rfl⟩
theorem dates_pos {y0 y1 : Int} (h : isSp y0 y1 = true) : 0 < (datesIn y0 y1).length := by
  have := rows_pos h
  unfold rowsIn at this
  rwa [List.length_map] at this
end DP
set_option Elab.async false
set_option linter.all false
set_option maxRecDepth 100000
set_option maxHeartbeats 1000000
namespace DP
open PySem L2
section
variable {X : Cx} {P : Program} {w : World} {K : PySem.W.Frag} {mg : Str → Option Value} {base : Heap} {N : List Str} {sc : Scope} {k : Nat} {lv : Bool}
variable {H : Hp} {Q : VK}
/-- a tuple, some times -/
theorem o_repT (C : Kx X P w K mg base N sc k lv) {a : Addr} {xs : List V} {n : Int} (hq : SqT K H a xs) (h0 : xs ≠ []) (h1 : 2 ≤ n) (h2 : n ≤ 1000) (hl : xs.length ≤ 1000) (h : ∀ p, H p = none → Q (.ref p) (upd H p (.tup (List.replicate n.toNat xs).flatten))) : wOp X (binaryOp .Mult) (.ref a) (.int n) H Q := by
  have e3 := C.eK; subst e3
  exact goOp op_repT ⟨a, n, xs, rfl, rfl, hq, h0, h1, h2, hl, h⟩
end
/-- patterns, one behind the other -/
def PatsV (K : PySem.W.Frag) (H : Hp) (pss : List (List Str)) (xs : List V) : Prop := Paired (StrsV K H) pss xs
theorem PatsV.tk {K : PySem.W.Frag} {H H' : Hp} {pss : List (List Str)} {xs : List V} (e : Tk H H') (h : PatsV K H pss xs) : PatsV K H' pss xs := Paired.mapP h fun _ _ q => q.tk e
theorem strsV_of {K : PySem.W.Frag} {H : Hp} {a : Addr} {ps : List Str} (h : H a = some (.tup (ps.map V.str))) : StrsV K H ps (.ref a) := ⟨a, rfl, SqT.of h⟩
theorem town_ne {H : Hp} {t p : Addr} {o : HO} (h : TownAt H t) (hp : H p = none) : p ≠ t := fun z => by
  obtain ⟨a, b, h, _⟩ := h
  rw [z, h] at hp
  cases hp
/-- the state in which k dates were compared, each with the next -/
theorem range_take {N n : Nat} (h : n ≤ N) : (List.range N).take n = List.range n := by rw [List.take_range, Nat.min_eq_left h]
theorem uns_step {f : Dt → Str} {ds : List Dt} {n : Nat} (h : (List.range n).findSome? (unsAt f ds) = none) : (List.range (n + 1)).findSome? (unsAt f ds) = unsAt f ds n := by
  rw [List.range_succ, List.findSome?_append, h]
  simp
theorem uns_keep {f : Dt → Str} {ds : List Dt} {n m : Nat} {d : Dt} (hm : n ≤ m) (h : (List.range n).findSome? (unsAt f ds) = some d) : (List.range m).findSome? (unsAt f ds) = some d := by
  obtain ⟨j, rfl⟩ := Nat.le.dest hm
  rw [List.range_add, List.findSome?_append, h]
  rfl
theorem unsAt_of {f : Dt → Str} {ds : List Dt} {n : Nat} {d e : Dt} (h1 : ds[n]? = some d) (h2 : ds[n + 1]? = some e) : unsAt f ds n = if slt (f d) (f e) = true then none else some d := by
  unfold unsAt
  rw [h1, h2]
theorem lens_snoc {f : Dt → Str} {ds : List Dt} {n : Nat} {d : Dt} (h : ds[n]? = some d) : lens f (ds.take (n + 1)) = lens f (ds.take n) ++ [((f d).length : Int)] := by
  unfold lens
  rw [List.take_add_one, h]
  simp
end DP
set_option Elab.async false
set_option linter.all false
set_option maxRecDepth 100000
set_option maxHeartbeats 1000000
namespace DP
open PySem L2
/-! ### rules -/
section
variable {X : Cx} {P : Program} {w : World} {K : PySem.W.Frag} {mg : Str → Option Value} {base : Heap} {N : List Str} {sc : Scope} {k : Nat} {lv : Bool}
variable {σ : L2.St} {H : Hp} {Q : VK} {pos : Pos} {es : List Expr}
/-- new tuples and lists, the heap left open -/
theorem e_tupN {x1 : Nat} (h : wA X es σ H fun xs H1 => xs.length ≤ sizeLine ∧ ∀ p H2, H1 p = none → Ex H1 H2 → H2 p = some (.tup xs) → Q (.ref p) H2) : wE X (.Tuple es x1 pos) σ H Q :=
  e_tup (wA_mono (fun _ _ ⟨a, b⟩ => ⟨a, fun p np => b p _ np (Ex.new np) upd_same⟩) h)
theorem e_lstN (h : wA X es σ H fun xs H1 => xs.length ≤ sizeLine ∧ ∀ p H2, H1 p = none → Ex H1 H2 → H2 p = some (.lst xs) → Q (.ref p) H2) : wE X (.List es pos) σ H Q :=
  e_lst (wA_mono (fun _ _ ⟨a, b⟩ => ⟨a, fun p np => b p _ np (Ex.new np) upd_same⟩) h)
/-- a statement, then a word, then the rest -/
theorem s_cut {st : Stmt} {nx : L2.St → Hp → Prop} {rt : VK} {bk ct : L2.St → Hp → Prop} (Mid : L2.St → Hp → Prop) (h : wS X st Mid rt bk ct σ H) (h2 : ∀ σ' H', Mid σ' H' → nx σ' H') : wS X st nx rt bk ct σ H := wS_mono h2 (fun _ _ z => z) (fun _ _ z => z) (fun _ _ z => z) h
/-- a dict of the module, with text keys and whole numbers -/
def GD (K : PySem.W.Frag) (w : World) (mg : Str → Option Value) (x : Str) (kvs : List (Str × Int)) : Prop := ∃ a, mg x = some (.ref a) ∧ ∀ k v, (k, v) ∈ kvs → KDct K w a k (.int v)
theorem e_gd {x : Str} {kvs : List (Str × Int)} (C : Kx X P w K mg base N sc k lv) (g : GD K w mg x kvs) (h : ∀ a, (∀ k v, (k, v) ∈ kvs → KDct K w a k (.int v)) → Q (.ref a) H) (hg : sc.names.lookup x = some .globalImplicit := by rfl) (hd : (x == ("__debug__" : Str)) = false := by decide) : wE X (.Name x pos) σ H Q := by
  obtain ⟨a, hm, hs⟩ := g
  exact e_glob (v := .ref a) C ⟨_, hm, rfl⟩ (h a hs) hg hd
theorem ixK (C : Kx X P w K mg base N sc k lv) {a : Addr} {x : Str} {v : V} (h : KDct K w a x v) (q : Q v H) : wIx X (.ref a) (.str x) H Q := by
  have e2 := C.ew; have e3 := C.eK; subst e2 e3
  exact goIx ix_kdict ⟨a, x, v, rfl, rfl, h, q⟩
theorem c_intS {x : Str} {n : Int} (h0 : intText? x = some n) (hl : x.length ≤ 640) (h : Q (.int n) H) : wC X (.type "int") [.str x] H Q := goC call_int_str ⟨x, n, rfl, h0, hl, h⟩
end
/-! ### the greedy reader, plainly -/
abbrev cs (t : Str) : List Nat := t.cps.toList
abbrev ST (l : List Nat) : Str := ⟨l.toArray⟩
theorem cs_ST (l : List Nat) : cs (ST l) = l := rfl
theorem ST_cs (t : Str) : ST (cs t) = t := by cases t; rfl
theorem cs_inj {a b : Str} (h : cs a = cs b) : a = b := str_ext h
theorem cs_len (t : Str) : (cs t).length = t.length := by show t.cps.toList.length = t.cps.size; simp
def isDig (c : Nat) : Bool := decide (48 ≤ c) && decide (c ≤ 57)
theorem dig_iff {c : Nat} : decide (c ∈ (("0123456789" : Str)).cps.toList) = isDig c := by
  have e : (("0123456789" : Str)).cps.toList = [48, 49, 50, 51, 52, 53, 54, 55, 56, 57] := by decide +kernel
  rw [e]
  unfold isDig
  rw [Bool.eq_iff_iff]
  simp
  omega
def ndig : Nat → List Nat → Nat
  | 0, _ => 0
  | _ + 1, [] => 0
  | m + 1, c :: r => if isDig c = true then ndig m r + 1 else 0
theorem ndig_le : ∀ (m : Nat) (l : List Nat), ndig m l ≤ m ∧ ndig m l ≤ l.length
  | 0, l => ⟨Nat.le_refl _, Nat.zero_le _⟩
  | m + 1, [] => ⟨Nat.zero_le _, Nat.le_refl _⟩
  | m + 1, c :: r => by
    have := ndig_le m r
    unfold ndig
    split
    · simp; omega
    · simp
theorem ndig_dig : ∀ (m : Nat) (l : List Nat), ∀ c ∈ l.take (ndig m l), isDig c = true
  | 0, l => fun c h => by simp [ndig] at h
  | m + 1, [] => fun c h => by simp at h
  | m + 1, d :: r => fun c h => by
    unfold ndig at h
    split at h
    · rename_i hd
      rw [List.take_succ_cons] at h
      rcases List.mem_cons.mp h with rfl | h
      · exact hd
      · exact ndig_dig m r c h
    · simp at h
theorem ndig_step {m j : Nat} {t : List Nat} {c : Nat} (hj : j < m) (hc : t[j]? = some c) (hd : isDig c = true) : ndig (m - j) (t.drop j) = ndig (m - (j + 1)) (t.drop (j + 1)) + 1 := by
  have e : m - j = (m - (j + 1)) + 1 := by omega
  have e2 : t.drop j = c :: t.drop (j + 1) := by
    obtain ⟨hl, hx⟩ := List.getElem?_eq_some_iff.mp hc
    rw [List.drop_eq_getElem_cons hl, hx]
  rw [e, e2]
  show (if isDig c = true then ndig (m - (j + 1)) (t.drop (j + 1)) + 1 else 0) = _
  rw [if_pos hd]
theorem ndig_stop {m : Nat} {t : List Nat} (h : m = 0 ∨ t = [] ∨ ∃ c r, t = c :: r ∧ isDig c = false) : ndig m t = 0 := by
  rcases h with rfl | rfl | ⟨c, r, rfl, h⟩
  · rfl
  · cases m <;> rfl
  · cases m with
    | zero => rfl
    | succ m => unfold ndig; rw [h]; rfl
def longest (p : Str) : Nat := if p = "YYYY" then 4 else if isIn p ["J", "JJJ"] = true then 3 else 2
def nameOf (p : Str) : List Str := if p = "MON" then monNames else wdNames
/-- what is taken for a part at the head of a text: the value and how many signs -/
def gTake (p : Str) (t : List Nat) : Option (Key × Nat) :=
  if isField p = false then (if t.take p.length = cs p then some (.inl 0, p.length) else none)
  else if isIn p ["MON", "WD"] = true then (if isIn (ST (t.take 3)) (nameOf p) = true then some (.inr (ST (t.take 3)), 3) else none)
  else if 0 < ndig (longest p) t then some (.inl (NumText.digitsVal (t.take (ndig (longest p) t)) : Nat), ndig (longest p) t) else none
def gRes : List Str → List Nat → Option (List Key)
  | [], t => if t = [] then some [] else none
  | p :: ps, t => match gTake p t with
    | none => none
    | some (v, k) => (gRes ps (t.drop k)).map fun r => if isField p = true then v :: r else r
def fkey (p : Str) (d : Dt) : Key := if isIn p ["MON", "WD"] = true then .inr (sval p d) else .inl (ival p d)
theorem fkey_fval (p : Str) (d : Dt) : fval p d = kV (fkey p d) := by unfold fval fkey; split <;> rfl
def dueF (ps : List Str) (d : Dt) : List Key := (ps.filter isField).map fun p => fkey p d
def misD (ps : List Str) (d : Dt) : Bool := decide (gRes ps (cs (wr ps d)) ≠ some (dueF ps d))
def misOf (ps : List Str) (ds : List Dt) : Option Dt := ds.find? (misD ps)
theorem name_len {p t : Str} (h : isIn t (nameOf p) = true) : t.length = 3 := by
  have : ∀ n ∈ monNames ++ wdNames, n.length = 3 := by decide +kernel
  have hm := isIn_iff.mp h
  refine this t ?_
  unfold nameOf at hm
  split at hm
  · exact List.mem_append_left _ hm
  · exact List.mem_append_right _ hm
theorem gTake_le {p : Str} {t : List Nat} {v : Key} {k : Nat} (h : gTake p t = some (v, k)) : k ≤ t.length := by
  unfold gTake at h
  split at h
  · split at h
    · rename_i he
      cases h
      have := congrArg List.length he
      rw [List.length_take, cs_len] at this
      omega
    · cases h
  · split at h
    · split at h
      · rename_i he
        cases h
        have := name_len he
        have e : (ST (t.take 3)).length = (t.take 3).length := rfl
        rw [e, List.length_take] at this
        omega
      · cases h
    · split at h
      · cases h
        exact (ndig_le _ _).2
      · cases h
/-- the value as data -/
def kD : Key → PyData
  | .inl i => .int i
  | .inr x => .str x
theorem kD_inj {a b : Key} (h : kD a = kD b) : a = b := by
  cases a <;> cases b <;> simp [kD] at h <;> rw [h]
theorem clean_kD (a : Key) : clean (kD a) = true := by cases a <;> rfl
theorem dpA_keys {K : PySem.W.Frag} {H : Hp} : ∀ (l : List Key), DpAll K H (l.map kV) (l.map kD)
  | [] => .nil
  | .inl i :: r => .cons (.int i) (dpA_keys r)
  | .inr x :: r => .cons (.str x) (dpA_keys r)
def kOk (a : Key) : Prop := match a with
  | .inl _ => True
  | .inr x => PyData.strOk x = true
theorem sh_kD {n : Nat} {a : Key} (h : kOk a) : sh n (kD a) := by
  cases a with
  | inl i => exact sh_int n i
  | inr x => exact sh_str n h
theorem sh_keys {n : Nat} {l : List Key} (h : ∀ a ∈ l, kOk a) : sh (n + 1) (.list (l.map kD)) := sh_list (shA_all fun d hd => by
  obtain ⟨a, ha, rfl⟩ := List.mem_map.mp hd
  exact sh_kD (h a ha))
theorem names_ok : ∀ n ∈ monNames ++ wdNames, PyData.strOk n = true := by decide +kernel
theorem gTake_ok {p : Str} {t : List Nat} {v : Key} {k : Nat} (h : gTake p t = some (v, k)) : kOk v := by
  unfold gTake at h
  split at h
  · split at h
    · cases h; trivial
    · cases h
  · split at h
    · split at h
      · rename_i he
        cases h
        have hm := isIn_iff.mp he
        unfold nameOf at hm
        refine names_ok _ ?_
        split at hm
        · exact List.mem_append_left _ hm
        · exact List.mem_append_right _ hm
      · cases h
    · split at h
      · cases h; trivial
      · cases h
theorem gRes_ok : ∀ {ps : List Str} {t : List Nat} {l : List Key}, gRes ps t = some l → ∀ a ∈ l, kOk a
  | [], t, l, h => by
    unfold gRes at h
    split at h
    · cases h; simp
    · cases h
  | p :: ps, t, l, h => by
    unfold gRes at h
    cases ht : gTake p t with
    | none => rw [ht] at h; cases h
    | some vk =>
      obtain ⟨v, k⟩ := vk
      rw [ht] at h
      dsimp only at h
      cases hr : gRes ps (t.drop k) with
      | none => rw [hr] at h; cases h
      | some r =>
        rw [hr] at h
        have ih := gRes_ok hr
        simp only [Option.map_some] at h
        split at h
        · cases h
          intro a ha
          rcases List.mem_cons.mp ha with rfl | ha
          · exact gTake_ok ht
          · exact ih a ha
        · cases h; exact ih
theorem dueF_ok {ps : List Str} {d : Dt} (hd : okD d) : ∀ a ∈ dueF ps d, kOk a := by
  intro a ha
  unfold dueF at ha
  obtain ⟨p, hp, rfl⟩ := List.mem_map.mp ha
  unfold fkey
  split
  · show PyData.strOk (sval p d) = true
    unfold sval
    split
    · exact names_ok _ (List.mem_append_left _ (mon_mem hd))
    · exact names_ok _ (List.mem_append_right _ (wd_mem d))
  · trivial
/-- the answer of the greedy reader in the heap -/
def GrV (H : Hp) : Option (List Key) → V → Prop
  | none, v => v = .non
  | some l, v => ∃ a, v = .ref a ∧ H a = some (.lst (l.map kV))
def grD : Option (List Key) → PyData
  | none => .none
  | some l => .list (l.map kD)
theorem dp_gr {K : PySem.W.Frag} {H : Hp} {o : Option (List Key)} {v : V} (h : GrV H o v) : Dp K H v (grD o) := by
  cases o with
  | none => cases (show v = .non from h); exact .non
  | some l => obtain ⟨a, rfl, ha⟩ := h; exact .lst (SqL.of ha) (dpA_keys l)
theorem sh_gr {n : Nat} {o : Option (List Key)} (h : ∀ l, o = some l → ∀ a ∈ l, kOk a) : sh (n + 1) (grD o) := by
  cases o with
  | none => exact sh_non _
  | some l => exact sh_keys (h l rfl)
theorem clean_gr (o : Option (List Key)) : clean (grD o) = true := by
  cases o with
  | none => rfl
  | some l => exact cleanA_map clean_kD
theorem grD_inj {a b : Option (List Key)} (h : grD a = grD b) : a = b := by
  cases a <;> cases b <;> simp [grD] at h
  · rfl
  · rw [map_inj kD_inj h]
theorem eqv_gr (a b : Option (List Key)) : PyData.eqv (grD a) (grD b) = decide (a = b) := eqv_dec (clean_gr a) (clean_gr b) ⟨grD_inj, fun e => by rw [e]⟩
section
variable {K : PySem.W.Frag} {H : Hp} {Q : VK} {E : XK} {v u : V} {a b : Int} {ps : List Str} {p t : Str} {n : Nat}
def RetTk (p t : Str) (n : Nat) (H : Hp) (Q : VK) : Prop := (gTake p ((cs t).drop n) = none → ∀ H', Ex H H' → Q .non H') ∧
  ∀ key k, gTake p ((cs t).drop n) = some (key, k) → ∀ q H', H q = none → Ex H H' → H' q = some (.tup [if isField p = true then kV key else .non, .int ((n + k : Nat) : Int)]) → Q (.ref q) H'
def sp_taken : Sp := fun vs H Q _ => ∃ p t n, vs = [.str p, .str t, .int ((n : Nat) : Int)] ∧ p.length ≤ 1000 ∧ t.length ≤ 2000000 ∧ n ≤ t.length ∧ RetTk p t n H Q
theorem u_taken (h1 : p.length ≤ 1000) (h2 : t.length ≤ 2000000) (h3 : n ≤ t.length) (q : RetTk p t n H Q) : sp_taken [.str p, .str t, .int ((n : Nat) : Int)] H Q E := ⟨p, t, n, rfl, h1, h2, h3, q⟩
def sp_gres (K : PySem.W.Frag) : Sp := fun vs H Q _ => ∃ v ps t, vs = [v, .str t] ∧ StrsV K H ps v ∧ small ps ∧ t.length ≤ 2000000 ∧ ∀ r H', Ex H H' → (∀ x, r = .ref x → H x = none) → GrV H' (gRes ps (cs t)) r → Q r H'
theorem u_gres (hp : StrsV K H ps v) (hs : small ps) (h2 : t.length ≤ 2000000) (q : ∀ r H', Ex H H' → (∀ x, r = .ref x → H x = none) → GrV H' (gRes ps (cs t)) r → Q r H') : sp_gres K [v, .str t] H Q E := ⟨v, ps, t, rfl, hp, hs, h2, q⟩
def sp_misread (K : PySem.W.Frag) : Sp := fun vs H Q _ => ∃ v ps u a b, vs = [v, u] ∧ StrsV K H ps v ∧ small ps ∧ isPat ps = true ∧ SpanV K H a b u ∧ isSp a b = true ∧ ∀ r H', Ex H H' → OptD K H' (misOf ps (datesIn a b)) r → Q r H'
theorem u_misread (hp : StrsV K H ps v) (hs : small ps) (hi : isPat ps = true) (hd : SpanV K H a b u) (h : isSp a b = true) (q : ∀ r H', Ex H H' → OptD K H' (misOf ps (datesIn a b)) r → Q r H') : sp_misread K [v, u] H Q E := ⟨v, ps, u, a, b, rfl, hp, hs, hi, hd, h, q⟩
end
theorem cutS_at (t : Str) (n k : Nat) (h : n ≤ t.length) : cutS t (some (n : Int)) (some ((n : Int) + (k : Int))) = ST (((cs t).drop n).take k) := by
  unfold cutS
  have e1 : HT.sIx t.length 0 (some (n : Int)) = n := by rw [HT.sIx_nat]; omega
  have e2 : HT.sIx t.length t.length (some ((n : Int) + (k : Int))) = min (n + k) t.length := by rw [show (n : Int) + (k : Int) = ((n + k : Nat) : Int) by omega, HT.sIx_nat]
  rw [e1, e2]
  show (⟨_⟩ : Str) = ⟨_⟩
  congr 2
  rw [List.take_eq_take_iff, List.length_drop]
  have := cs_len t
  simp at this ⊢
  omega
theorem cutS_3 (t : Str) (n : Nat) (h : n ≤ t.length) : cutS t (some (n : Int)) (some ((n : Int) + 3)) = ST (((cs t).drop n).take 3) := cutS_at t n 3 h
theorem long_mem {p : Str} (h1 : isField p = true) (h2 : isIn p ["MON", "WD"] = false) : (p, ((longest p : Nat) : Int)) ∈ [(("D" : Str), (2 : Int)), ("DD", 2), ("M", 2), ("MM", 2), ("YY", 2), ("YYYY", 4), ("J", 3), ("JJJ", 3)] := by
  have : ∀ p ∈ fields, isIn p ["MON", "WD"] = false → (p, ((longest p : Nat) : Int)) ∈ [(("D" : Str), (2 : Int)), ("DD", 2), ("M", 2), ("MM", 2), ("YY", 2), ("YYYY", 4), ("J", 3), ("JJJ", 3)] := by decide +kernel
  exact this p (isIn_iff.mp h1) h2
end DP
set_option Elab.async false
set_option linter.all false
set_option maxRecDepth 100000
set_option maxHeartbeats 1000000
namespace DP
open PySem L2
section
variable {X : Cx} {P : Program} {w : World} {K : PySem.W.Frag} {mg : Str → Option Value} {base : Heap} {N : List Str} {sc : Scope} {k : Nat} {lv : Bool}
variable {σ : L2.St} {H : Hp} {Q : VK} {i j : Int} {a : Addr}
theorem c_min2 (C : Kx X P w K mg base N sc k lv) (h : Q (.int (if j < i then j else i)) H) : wC X (.builtin "min") [.int i, .int j] H Q := goC (call_min2 C.calm) ⟨i, j, rfl, h⟩
theorem c_max2 (C : Kx X P w K mg base N sc k lv) (h : Q (.int (if j > i then j else i)) H) : wC X (.builtin "max") [.int i, .int j] H Q := goC (call_max2 C.calm) ⟨i, j, rfl, h⟩
theorem c_dictP (C : Kx X P w K mg base N sc k lv) {ps : List Addr} {kvs : List (Key × V)} (hq : SqL K H a (ps.map V.ref)) (hp : Paired (fun p kv => SqT K H p [kV kv.1, kv.2]) ps kvs) (h : ∀ p, H p = none → Q (.ref p) (upd H p (.dK (mergeK [] kvs)))) : wC X (.type "dict") [.ref a] H Q := by
  have e3 := C.eK; subst e3
  exact goC (call_dictP C.calm) ⟨a, ps, kvs, rfl, hq, hp, h⟩
end
theorem ite_mono {X : Cx} {e1 e2 : Expr} {σ : L2.St} {H : Hp} {R R' : VK} {c : Bool} (hm : ∀ v H', R v H' → R' v H') (h : if c = true then wE X e1 σ H R else wE X e2 σ H R) : if c = true then wE X e1 σ H R' else wE X e2 σ H R' := by
  cases c
  · exact wE_mono hm h
  · exact wE_mono hm h
/-! ### two years -/
theorem dates_one (y : Int) : datesIn y y = yearDays y := by
  unfold datesIn
  have e : (y + 1 - y).toNat = 1 := by omega
  rw [e]
  simp [List.range_succ]
theorem dates_both (y : Int) : datesIn y (y + 1) = datesIn y y ++ datesIn (y + 1) (y + 1) := by
  rw [dates_one, dates_one]
  unfold datesIn
  have e1 : (y + 1 + 1 - y).toNat = 2 := by omega
  rw [e1]
  simp [List.range_succ]
theorem dates_first (y : Int) : ∃ r, datesIn y y = (y, 1, 1) :: r := by
  rw [dates_one]
  unfold yearDays
  have e : monthDays y 1 = (y, 1, 1) :: (List.range 30).map fun (i : Nat) => (y, 1, 1 + ((i + 1 : Nat) : Int)) := by
    unfold monthDays
    have : (mlen y 1).toNat = 30 + 1 := by simp [mlen]
    rw [this, List.range_succ_eq_map]
    simp
  rw [show List.range 12 = 0 :: (List.range 11).map (· + 1) from rfl, List.flatMap_cons]
  rw [show (1 + ((0 : Nat) : Int)) = 1 from rfl, e]
  exact ⟨_, rfl⟩
theorem dates_last (y : Int) : ∃ r, datesIn y y = r ++ [(y, 12, 31)] := by
  rw [dates_one]
  unfold yearDays
  have e : monthDays y 12 = ((List.range 30).map fun (i : Nat) => (y, 12, 1 + (i : Int))) ++ [(y, 12, 31)] := by
    unfold monthDays
    have : (mlen y 12).toNat = 30 + 1 := by simp [mlen]
    rw [this, List.range_succ, List.map_append]
    rfl
  rw [show List.range 12 = List.range 11 ++ [11] from rfl, List.flatMap_append]
  rw [show List.flatMap (fun (i : Nat) => monthDays y (1 + (i : Int))) [11] = monthDays y 12 by simp, e]
  exact ⟨_, (List.append_assoc _ _ _).symm⟩
/-! ### unsorted, step by step -/
def unsR (f : Dt → Str) : List Dt → Option Dt
  | [] => none
  | [_] => none
  | x :: y :: r => if slt (f x) (f y) = true then unsR f (y :: r) else some x
theorem unsOf_R (f : Dt → Str) : ∀ ds : List Dt, unsOf f ds = unsR f ds
  | [] => rfl
  | [_] => rfl
  | x :: y :: r => by
    have ih := unsOf_R f (y :: r)
    unfold unsR
    rw [← ih]
    unfold unsOf
    have e : (x :: y :: r).length - 1 = ((y :: r).length - 1) + 1 := by simp
    rw [e, List.range_succ_eq_map, List.findSome?_cons]
    have e0 : unsAt f (x :: y :: r) 0 = if slt (f x) (f y) = true then none else some x := rfl
    rw [e0, List.findSome?_map]
    have e1 : (unsAt f (x :: y :: r) ∘ Nat.succ) = unsAt f (y :: r) := by funext i; rfl
    rw [e1]
    cases slt (f x) (f y) <;> rfl
theorem unsR_app (f : Dt → Str) (x z : Dt) (b : List Dt) : ∀ l : List Dt, unsR f (l ++ [x] ++ z :: b) = (unsR f (l ++ [x])).or (if slt (f x) (f z) = true then unsR f (z :: b) else some x)
  | [] => by
    show unsR f (x :: z :: b) = _
    conv => lhs; unfold unsR
    rfl
  | [y] => by
    have ih := unsR_app f x z b []
    show unsR f (y :: x :: z :: b) = (unsR f [y, x]).or _
    conv => lhs; unfold unsR
    have e : unsR f [y, x] = if slt (f y) (f x) = true then none else some y := rfl
    rw [e]
    cases slt (f y) (f x)
    · rfl
    · exact ih
  | y :: y2 :: l => by
    have ih := unsR_app f x z b (y2 :: l)
    show unsR f (y :: y2 :: (l ++ [x] ++ z :: b)) = (unsR f (y :: y2 :: (l ++ [x]))).or _
    conv => lhs; unfold unsR
    have e : unsR f (y :: y2 :: (l ++ [x])) = if slt (f y) (f y2) = true then unsR f (y2 :: (l ++ [x])) else some y := rfl
    rw [e]
    cases slt (f y) (f y2)
    · rfl
    · exact ih
theorem uns_both (f : Dt → Str) (y : Int) : unsOf f (datesIn y (y + 1)) = (unsOf f (datesIn y y)).or (if slt (f (y, 12, 31)) (f (y + 1, 1, 1)) = true then unsOf f (datesIn (y + 1) (y + 1)) else some (y, 12, 31)) := by
  rw [dates_both, unsOf_R, unsOf_R, unsOf_R]
  obtain ⟨l, hl⟩ := dates_last y
  obtain ⟨b, hb⟩ := dates_first (y + 1)
  rw [hl, hb]
  exact unsR_app f _ _ b l
theorem mis_both (ps : List Str) (y : Int) : misOf ps (datesIn y (y + 1)) = (misOf ps (datesIn y y)).or (misOf ps (datesIn (y + 1) (y + 1))) := by
  unfold misOf
  rw [dates_both, List.find?_append]
theorem lens_both (f : Dt → Str) (y : Int) : lens f (datesIn y (y + 1)) = lens f (datesIn y y) ++ lens f (datesIn (y + 1) (y + 1)) := by
  unfold lens
  rw [dates_both, List.map_append]
theorem Least.app {a b : Int} {l r : List Int} (h : Least a l) (h2 : Least b r) : Least (if b < a then b else a) (l ++ r) := by
  obtain ⟨m1, n1⟩ := h
  obtain ⟨m2, n2⟩ := h2
  constructor
  · split
    · exact List.mem_append_right _ m2
    · exact List.mem_append_left _ m1
  · intro x hx
    rcases List.mem_append.mp hx with h | h
    · have := n1 x h
      split <;> omega
    · have := n2 x h
      split <;> omega
theorem Most.app {a b : Int} {l r : List Int} (h : Most a l) (h2 : Most b r) : Most (if b > a then b else a) (l ++ r) := by
  obtain ⟨m1, n1⟩ := h
  obtain ⟨m2, n2⟩ := h2
  constructor
  · split
    · exact List.mem_append_right _ m2
    · exact List.mem_append_left _ m1
  · intro x hx
    rcases List.mem_append.mp hx with h | h
    · have := n1 x h
      split <;> omega
    · have := n2 x h
      split <;> omega
/-! ### clashes over two years -/
theorem dup_pre {f : Dt → Str} {ds1 ds2 : List Dt} {e d : Dt} (h : IsDup f ds1 e d) : IsDup f (ds1 ++ ds2) e d := by
  obtain ⟨p1, p2, rfl, h1, h2⟩ := h
  exact ⟨p1, p2 ++ ds2, by simp, h1, h2⟩
theorem clash_pre {f : Dt → Str} {ds1 ds2 : List Dt} {p : Dt × Dt} (h : Clash f ds1 (some p)) : Clash f (ds1 ++ ds2) (some p) := by
  rcases h with ⟨h, _⟩ | ⟨e, d, h, hd⟩
  · cases h
  · exact .inr ⟨e, d, h, dup_pre hd⟩
theorem find_none_of {f : Dt → Str} {l : List Dt} {t : Str} (h : ∀ y ∈ l, f y ≠ t) : l.find? (fun x => decide (f x = t)) = none := by
  rw [List.find?_eq_none]
  intro y hy
  simpa using h y hy
theorem nodup_app {f : Dt → Str} {l r : List Dt} (h1 : (l.map f).Nodup) (h2 : (r.map f).Nodup) (h : ∀ x ∈ r, ∀ y ∈ l, f y ≠ f x) : ((l ++ r).map f).Nodup := by
  rw [List.map_append, List.nodup_append]
  refine ⟨h1, h2, fun a ha b hb => ?_⟩
  obtain ⟨y, hy, rfl⟩ := List.mem_map.mp ha
  obtain ⟨x, hx, rfl⟩ := List.mem_map.mp hb
  exact h x hx y hy
theorem dup_cross {f : Dt → Str} {ds1 q1 q2 : List Dt} {e d : Dt} (hn : (ds1.map f).Nodup) (hq1 : ∀ x ∈ q1, ∀ y ∈ ds1, f y ≠ f x) (hnq : (q1.map f).Nodup) (hf : ds1.find? (fun x => decide (f x = f d)) = some e) : IsDup f (ds1 ++ (q1 ++ d :: q2)) e d :=
  ⟨ds1 ++ q1, q2, by simp, nodup_app hn hnq hq1, by rw [List.find?_append, hf]; rfl⟩
theorem dup_in {f : Dt → Str} {ds1 p1 p2 : List Dt} {e d : Dt} (hn : (ds1.map f).Nodup) (hq1 : ∀ x ∈ p1, ∀ y ∈ ds1, f y ≠ f x) (hqd : ∀ y ∈ ds1, f y ≠ f d) (hnq : (p1.map f).Nodup) (hf : p1.find? (fun x => decide (f x = f d)) = some e) : IsDup f (ds1 ++ (p1 ++ d :: p2)) e d :=
  ⟨ds1 ++ p1, p2, by simp, nodup_app hn hnq hq1, by rw [List.find?_append, find_none_of hqd, hf]; rfl⟩
theorem filter_first {α : Type} {g : α → Bool} : ∀ {l : List α} {a : α} {r : List α}, l.filter g = a :: r → ∃ q1 q2, l = q1 ++ a :: q2 ∧ (∀ x ∈ q1, g x = false) ∧ g a = true
  | [], a, r, h => by cases h
  | b :: l, a, r, h => by
    cases hb : g b with
    | true =>
      rw [List.filter_cons_of_pos hb] at h
      cases h
      exact ⟨[], l, rfl, by simp, hb⟩
    | false =>
      rw [List.filter_cons_of_neg (by simp [hb])] at h
      obtain ⟨q1, q2, rfl, h1, h2⟩ := filter_first h
      exact ⟨b :: q1, q2, rfl, fun x hx => by
        rcases List.mem_cons.mp hx with rfl | hx
        · exact hb
        · exact h1 x hx, h2⟩
/-- two places in one sorted list -/
theorem two_places {l p1 p2 q1 q2 : List Dt} {d c : Dt} (hs : l.Pairwise dlt) (h1 : l = p1 ++ d :: p2) (h2 : l = q1 ++ c :: q2) : (∃ r, q1 = p1 ++ d :: r ∧ dlt d c) ∨ (∃ r, p1 = q1 ++ r ∧ ¬ dlt d c) := by
  have e := h1.symm.trans h2
  rcases List.append_eq_append_iff.mp e with ⟨r, ha, hb⟩ | ⟨r, ha, hb⟩
  · cases r with
    | nil =>
      simp at ha hb
      exact .inr ⟨[], by simp [ha], by rw [hb.1]; exact dlt_irrefl _⟩
    | cons z r =>
      simp at hb
      obtain ⟨rfl, hb⟩ := hb
      refine .inl ⟨r, ha, ?_⟩
      rw [h1, hb] at hs
      have := (List.pairwise_append.mp hs).2.1
      exact (List.pairwise_cons.mp this).1 c (by simp)
  · cases r with
    | nil =>
      simp at ha hb
      exact .inr ⟨[], by simp [ha], by rw [hb.1]; exact dlt_irrefl _⟩
    | cons z r =>
      simp at hb
      obtain ⟨rfl, hb⟩ := hb
      refine .inr ⟨c :: r, ha, ?_⟩
      rw [h2, hb] at hs
      have := (List.pairwise_append.mp hs).2.1
      exact dlt_asymm ((List.pairwise_cons.mp this).1 d (by simp))
def crossed (f : Dt → Str) (ds1 ds2 : List Dt) : List Dt := ds2.filter fun d => (ds1.find? fun x => decide (f x = f d)).isSome
theorem not_crossed {f : Dt → Str} {ds1 : List Dt} {x : Dt} (h : (ds1.find? fun y => decide (f y = f x)).isSome = false) : ∀ y ∈ ds1, f y ≠ f x := by
  intro y hy e
  cases hz : ds1.find? fun y => decide (f y = f x) with
  | none =>
    have := List.find?_eq_none.mp hz y hy
    simp [e] at this
  | some z => rw [hz] at h; cases h
theorem cross_law {f : Dt → Str} {ds1 ds2 : List Dt} {w : Option (Dt × Dt)} (hs : ds2.Pairwise dlt) (hn : (ds1.map f).Nodup) (hw : Clash f ds2 w) : ∃ o, Clash f (ds1 ++ ds2) o ∧ (crossed f ds1 ds2 = [] → o = w) ∧
    ∀ d0 r e0, crossed f ds1 ds2 = d0 :: r → ds1.find? (fun x => decide (f x = f d0)) = some e0 → (w = none → o = some (e0, d0)) ∧ ∀ e d, w = some (e, d) → (¬ dlt d d0 → o = some (e0, d0)) ∧ (dlt d d0 → o = w) := by
  cases hc : crossed f ds1 ds2 with
  | nil =>
    have hx : ∀ x ∈ ds2, ∀ y ∈ ds1, f y ≠ f x := fun x hx => not_crossed (by
      cases hz : (ds1.find? fun y => decide (f y = f x)).isSome with
      | false => rfl
      | true =>
        have : x ∈ crossed f ds1 ds2 := List.mem_filter.mpr ⟨hx, hz⟩
        rw [hc] at this; cases this)
    refine ⟨w, ?_, fun _ => rfl, fun d0 r e0 h => by cases h⟩
    rcases hw with ⟨rfl, h⟩ | ⟨e, d, rfl, p1, p2, rfl, h1, h2⟩
    · exact .inl ⟨rfl, nodup_app hn h hx⟩
    · exact .inr ⟨e, d, rfl, dup_in hn (fun x hx' => hx x (by simp [hx'])) (hx d (by simp)) h1 h2⟩
  | cons d0 r0 =>
    obtain ⟨q1, q2, hq, hq1, hqd⟩ := filter_first hc
    have hx : ∀ x ∈ q1, ∀ y ∈ ds1, f y ≠ f x := fun x hx => not_crossed (hq1 x hx)
    obtain ⟨e0, he0⟩ := Option.isSome_iff_exists.mp hqd
    have cut : (q1.map f).Nodup → Clash f (ds1 ++ ds2) (some (e0, d0)) := fun hnq => .inr ⟨e0, d0, rfl, by rw [hq]; exact dup_cross hn hx hnq he0⟩
    rcases hw with ⟨rfl, h⟩ | ⟨e, d, rfl, p1, p2, hp, h1, h2⟩
    · refine ⟨_, cut ?_, fun h => (by cases h), fun d1 r1 e1 hd he => ?_⟩
      · rw [hq, List.map_append] at h
        exact (List.nodup_append.mp h).1
      · cases hd
        rw [he0] at he
        cases he
        exact ⟨fun _ => rfl, fun _ _ h => by cases h⟩
    · rcases two_places hs hp hq with ⟨r, hr, hlt⟩ | ⟨r, hr, hlt⟩
      · refine ⟨some (e, d), .inr ⟨e, d, rfl, ?_⟩, fun h => (by cases h), fun d1 r1 e1 hd he => ?_⟩
        · rw [hp]
          exact dup_in hn (fun x hx' => hx x (by rw [hr]; simp [hx'])) (hx d (by rw [hr]; simp)) h1 h2
        · cases hd
          exact ⟨fun h => (by cases h), fun e' d' h => (by cases h; exact ⟨fun z => absurd hlt z, fun _ => rfl⟩)⟩
      · refine ⟨_, cut ?_, fun h => (by cases h), fun d1 r1 e1 hd he => ?_⟩
        · rw [hr, List.map_append] at h1
          exact (List.nodup_append.mp h1).1
        · cases hd
          rw [he0] at he
          cases he
          exact ⟨fun _ => rfl, fun e' d' h => by cases h; exact ⟨fun _ => rfl, fun z => absurd z hlt⟩⟩
/-- the dict of all texts -/
theorem seen_merge {K : PySem.W.Frag} {H : Hp} {f : Dt → Str} : ∀ {ds : List Dt} {kvs : List (Key × V)} {pre : List Dt} {acc : List (Key × V)}, Paired (fun d (kv : Key × V) => kv.1 = Sum.inr (f d) ∧ DateV K H d kv.2) ds kvs → ((pre ++ ds).map f).Nodup → SeenV K H f pre acc → SeenV K H f (pre ++ ds) (mergeK acc kvs)
  | _, _, pre, acc, .nil, _, h => by rw [List.append_nil]; exact h
  | _, _, pre, acc, .cons (a := d) (b := kv) (l₁ := ds) (l₂ := kvs) ⟨h1, h2⟩ hr, hn, h => by
    have hnone : pre.find? (fun x => decide (f x = f d)) = none := find_none_of fun y hy e => by
      rw [List.map_append, List.nodup_append] at hn
      exact hn.2.2 (f y) (List.mem_map.mpr ⟨y, hy, rfl⟩) (f d) (by simp) e
    have hv : valV acc (Sum.inr (f d) : Key) = none := by
      rcases h (f d) with ⟨_, h⟩ | ⟨e, u, h, _⟩
      · exact h
      · rw [hnone] at h; cases h
    have := seen_merge (pre := pre ++ [d]) hr (by simpa using hn) (h.put hv h2)
    rw [List.append_assoc] at this
    show SeenV K H f (pre ++ ([d] ++ ds)) (mergeK (putK acc kv.1 kv.2) kvs)
    rw [h1]
    exact this
theorem pairs_dict {K : PySem.W.Frag} {H : Hp} {f : Dt → Str} : ∀ {ds : List Dt} {ys : List V}, Paired (fun d v => ∃ p u, v = V.ref p ∧ SqT K H p [.str (f d), u] ∧ DateV K H d u) ds ys →
    ∃ (ps : List Addr) (kvs : List (Key × V)), ys = ps.map V.ref ∧ Paired (fun p (kv : Key × V) => SqT K H p [kV kv.1, kv.2]) ps kvs ∧ Paired (fun d (kv : Key × V) => kv.1 = Sum.inr (f d) ∧ DateV K H d kv.2) ds kvs
  | _, _, .nil => ⟨[], [], rfl, .nil, .nil⟩
  | _, _, .cons (a := d) ⟨p, u, h1, h2, h3⟩ hr => by
    obtain ⟨ps, kvs, e, h4, h5⟩ := pairs_dict hr
    exact ⟨p :: ps, (Sum.inr (f d), u) :: kvs, by rw [h1, e]; rfl, .cons h2 h4, .cons ⟨rfl, h3⟩ h5⟩
theorem cutV_take1 (xs : List V) : cutV xs none (some 1) = xs.take 1 := by
  unfold cutV
  have e : HT.sIx xs.length xs.length (some (1 : Int)) = min 1 xs.length := HT.sIx_nat xs.length xs.length 1
  rw [e, HT.sIx_none, List.drop_zero, Nat.sub_zero]
  cases xs <;> simp
end DP
set_option Elab.async false
set_option linter.all false
set_option maxRecDepth 100000
set_option maxHeartbeats 1000000
namespace DP
open PySem L2
/-! ### bars -/
section
variable {K : PySem.W.Frag} {H : Hp} {Q : VK} {E : XK} {v u : V} {a b : Int} {ps : List Str}
/-- clash_of asks for no pattern -/
def sp_clashO (K : PySem.W.Frag) : Sp := fun vs H Q _ => ∃ v ps u a b, vs = [v, u] ∧ StrsV K H ps v ∧ small ps ∧ SpanV K H a b u ∧ isSp a b = true ∧ RetO K (Clash (wr ps) (datesIn a b)) H Q
theorem u_clashO (hp : StrsV K H ps v) (hs : small ps) (hd : SpanV K H a b u) (h : isSp a b = true) (q : RetO K (Clash (wr ps) (datesIn a b)) H Q) : sp_clashO K [v, u] H Q E := ⟨v, ps, u, a, b, rfl, hp, hs, hd, h, q⟩
end
abbrev nI (n : Nat) : V := .int (n : Int)
/-- a pattern's parts from place i on, with bars (any text) at some gaps -/
def wbF (s : Str) (gaps : List Nat) : Nat → List Str → List Str
  | _, [] => []
  | i, p :: r => if i ∈ gaps then p :: s :: wbF s gaps (i + 1) r else p :: wbF s gaps (i + 1) r
def wb (s : Str) (ps : List Str) (gaps : List Nat) : List Str := wbF s gaps 0 ps
theorem wbF_app (s : Str) (gaps : List Nat) : ∀ (ps : List Str) (i : Nat) (p : Str), wbF s gaps i (ps ++ [p]) = wbF s gaps i ps ++ (if i + ps.length ∈ gaps then [p, s] else [p])
  | [], i, p => by simp [wbF]
  | q :: r, i, p => by
    have ih := wbF_app s gaps r (i + 1) p
    have e : i + (q :: r).length = i + 1 + r.length := by simp; omega
    rw [List.cons_append]
    unfold wbF
    rw [ih, e]
    by_cases h : i ∈ gaps
    · simp [h]
    · simp [h]
theorem wb_take {s : Str} {ps : List Str} {gaps : List Nat} {n : Nat} {p : Str} (h : ps[n]? = some p) : wb s (ps.take (n + 1)) gaps = wb s (ps.take n) gaps ++ (if n ∈ gaps then [p, s] else [p]) := by
  obtain ⟨hl, _⟩ := List.getElem?_eq_some_iff.mp h
  have e : ps.take (n + 1) = ps.take n ++ [p] := by rw [List.take_add_one, h]; rfl
  unfold wb
  rw [e, wbF_app, List.length_take, Nat.min_eq_left (by omega), Nat.zero_add]
theorem wbF_len (s : Str) (gaps : List Nat) : ∀ (ps : List Str) (i : Nat), (wbF s gaps i ps).length ≤ 2 * ps.length
  | [], _ => Nat.le_refl _
  | p :: r, i => by
    have := wbF_len s gaps r (i + 1)
    unfold wbF
    split <;> simp <;> omega
theorem wbF_mem {s : Str} {gaps : List Nat} : ∀ {ps : List Str} {i : Nat} {q : Str}, q ∈ wbF s gaps i ps → q = s ∨ q ∈ ps
  | [], _, _, h => by cases h
  | p :: r, i, q, h => by
    unfold wbF at h
    split at h
    · rcases List.mem_cons.mp h with rfl | h
      · exact .inr (by simp)
      · rcases List.mem_cons.mp h with rfl | h
        · exact .inl rfl
        · rcases wbF_mem h with h | h
          · exact .inl h
          · exact .inr (by simp [h])
    · rcases List.mem_cons.mp h with rfl | h
      · exact .inr (by simp)
      · rcases wbF_mem h with h | h
        · exact .inl h
        · exact .inr (by simp [h])
theorem wb_small {s : Str} {ps : List Str} {gaps : List Nat} (h : small ps) (hl : ps.length ≤ 500) (hs : s.length ≤ 1000) : small (wb s ps gaps) := by
  constructor
  · have := wbF_len s gaps ps 0
    unfold wb
    omega
  · intro p hp
    rcases wbF_mem hp with rfl | hp
    · exact hs
    · exact h.2 p hp
/-- ascending lists of so many numbers from start on, below many -/
def chs (many : Nat) : Nat → Nat → List (List Nat)
  | 0, _ => [[]]
  | s + 1, st => (List.range' st (many - st)).flatMap fun first => (chs many s (first + 1)).map (first :: ·)
def barL (g : Nat) : List (List Nat) := (List.range g).flatMap fun s => chs g s 0
def okB (ps : List Str) (ds : List Dt) (gaps : List Nat) : Bool := decide ((ds.map (wr (wb "|" ps gaps))).Nodup)
def barsOf (ps : List Str) (ds : List Dt) : Option (List Nat) :=
  if okB ps ds (List.range (ps.length - 1)) = true then some (((barL (ps.length - 1)).find? (okB ps ds)).getD (List.range (ps.length - 1))) else none
/-- a list of whole numbers or none, new -/
def OptL (H H' : Hp) : Option (List Nat) → V → Prop
  | none, v => v = .non
  | some l, v => ∃ p, v = .ref p ∧ H p = none ∧ H' p = some (.lst (l.map nI))
section
variable {K : PySem.W.Frag} {H : Hp} {Q : VK} {E : XK} {v u : V} {a b : Int} {ps : List Str} {gaps : List Nat} {g : Addr}
def sp_with_bars (K : PySem.W.Frag) : Sp := fun vs H Q _ => ∃ v ps g gaps, vs = [v, .ref g] ∧ StrsV K H ps v ∧ ps.length ≤ 100 ∧ H g = some (.lst (gaps.map nI)) ∧ ∀ p H', H p = none → Ex H H' → H' p = some (.tup ((wb "|" ps gaps).map V.str)) → Q (.ref p) H'
theorem u_with_bars (hp : StrsV K H ps v) (hl : ps.length ≤ 100) (hg : H g = some (.lst (gaps.map nI))) (q : ∀ p H', H p = none → Ex H H' → H' p = some (.tup ((wb "|" ps gaps).map V.str)) → Q (.ref p) H') : sp_with_bars K [v, .ref g] H Q E := ⟨v, ps, g, gaps, rfl, hp, hl, hg, q⟩
/-- lists of whole numbers, all of them new -/
def ListsV (H0 H : Hp) (ls : List (List Nat)) (xs : List V) : Prop := Paired (fun l v => ∃ a, v = V.ref a ∧ H0 a = none ∧ H a = some (.lst (l.map nI))) ls xs
theorem ListsV.ex {H0 H H' : Hp} {ls : List (List Nat)} {xs : List V} (e : Ex H H') (h : ListsV H0 H ls xs) : ListsV H0 H' ls xs := Paired.mapP h fun _ _ ⟨a, h1, h2, h3⟩ => ⟨a, h1, h2, e _ _ h3⟩
theorem ListsV.back {H00 H0 H : Hp} {ls : List (List Nat)} {xs : List V} (e : Ex H00 H0) (h : ListsV H0 H ls xs) : ListsV H00 H ls xs := Paired.mapP h fun _ _ ⟨a, h1, h2, h3⟩ => ⟨a, h1, Ex.back e h2, h3⟩
def sp_choices (n : Nat) : Sp := fun vs H Q _ => ∃ many size st : Nat, vs = [nI many, nI size, nI st] ∧ size ≤ n ∧ many ≤ 10 ∧ st ≤ 100 ∧ ∀ p H' xs, H p = none → Ex H H' → H' p = some (.lst xs) → ListsV H H' (chs many size st) xs → Q (.ref p) H'
theorem u_choices {n many size st : Nat} (h1 : size ≤ n) (h2 : many ≤ 10) (h3 : st ≤ 100) (q : ∀ p H' xs, H p = none → Ex H H' → H' p = some (.lst xs) → ListsV H H' (chs many size st) xs → Q (.ref p) H') : sp_choices n [nI many, nI size, nI st] H Q E := ⟨many, size, st, rfl, h1, h2, h3, q⟩
def sp_bars (K : PySem.W.Frag) : Sp := fun vs H Q _ => ∃ v ps u a b, vs = [v, u] ∧ StrsV K H ps v ∧ small ps ∧ isPat ps = true ∧ SpanV K H a b u ∧ isSp a b = true ∧ ∀ r H', Ex H H' → OptL H H' (barsOf ps (datesIn a b)) r → Q r H'
theorem u_bars (hp : StrsV K H ps v) (hs : small ps) (hi : isPat ps = true) (hd : SpanV K H a b u) (h : isSp a b = true) (q : ∀ r H', Ex H H' → OptL H H' (barsOf ps (datesIn a b)) r → Q r H') : sp_bars K [v, u] H Q E := ⟨v, ps, u, a, b, rfl, hp, hs, hi, hd, h, q⟩
end
section
variable {X : Cx} {P : Program} {w : World} {K : PySem.W.Frag} {mg : Str → Option Value} {base : Heap} {N : List Str} {sc : Scope} {k : Nat} {lv : Bool}
variable {σ : L2.St} {H : Hp} {Q : VK} {tg e : Expr}
theorem z_L {R : Nat → (Hp → Prop) → (Nat → Hp → V → Hp → Prop) → Hp → Prop} (C : Kx X P w K mg base N sc k lv) (h : wE X e σ H fun v H1 => ∃ a xs, v = .ref a ∧ SqL K H1 a xs ∧ R xs.length (fun H => SqL K H a xs) (YAt xs) H1) : wI X tg e σ H (SrcI R) :=
  i_L C (wE_mono (fun _ _ ⟨a, xs, h1, h2, h3⟩ => ⟨a, xs, h1, h2, fun J wk => ⟨_, _, _, wk, h3⟩⟩) h)
end
theorem clash_ok {ps : List Str} {ds : List Dt} {gaps : List Nat} {o : Option (Dt × Dt)} (h : Clash (wr (wb "|" ps gaps)) ds o) : okB ps ds gaps = o.isNone := by
  unfold okB
  have := clash_iff h
  cases o with
  | none => simp [this.mp rfl]
  | some p =>
    have : ¬ (ds.map (wr (wb "|" ps gaps))).Nodup := fun z => by cases this.mpr z
    simp [this]
theorem inV_nat (l : List Nat) (n : Nat) : inV (nI n) (l.map nI) = decide (n ∈ l) := by
  rw [Bool.eq_iff_iff]
  unfold inV
  simp only [List.any_map, List.any_eq_true, Function.comp_apply, nI, eqV, beq_iff_eq, decide_eq_true_eq]
  constructor
  · rintro ⟨x, hx, e⟩
    have : x = n := by omega
    exact this ▸ hx
  · exact fun h => ⟨n, h, rfl⟩
theorem flat_nats (l : List Nat) : (l.map nI).all flatV = true := by
  rw [List.all_map]
  exact List.all_eq_true.mpr fun _ _ => rfl
theorem chs_len (many : Nat) (h : many ≤ 10) : ∀ s st, (chs many s st).length ≤ 10 ^ s
  | 0, _ => Nat.le_refl _
  | s + 1, st => by
    have ih := chs_len many h s
    unfold chs
    have hc : ∀ (l : List Nat), (l.flatMap fun first => (chs many s (first + 1)).map (first :: ·)).length ≤ l.length * 10 ^ s := by
      intro l
      refine flatMap_len (fun a => ?_) l
      rw [List.length_map]
      exact ih _
    refine Nat.le_trans (hc _) ?_
    rw [List.length_range', Nat.pow_succ, Nat.mul_comm]
    exact Nat.mul_le_mul_left _ (by omega)
theorem chs_mem {many : Nat} : ∀ {s st : Nat} {l : List Nat}, l ∈ chs many s st → l.length = s
  | 0, _, l, h => by
    unfold chs at h
    simp at h
    rw [h]
    rfl
  | s + 1, st, l, h => by
    unfold chs at h
    obtain ⟨a, ha, hl⟩ := List.mem_flatMap.mp h
    obtain ⟨l', hl', rfl⟩ := List.mem_map.mp hl
    simp [chs_mem hl']
theorem chs_mem_len {many s st : Nat} {l : List Nat} (hm : many ≤ 10) (h : l ∈ chs many s st) (hs : s ≤ 10) : l.length ≤ 10 := by rw [chs_mem h]; exact hs
theorem range'_at {st n i : Nat} (h : i < n) : (List.range' st n)[i]? = some (st + i) := by
  rw [List.getElem?_range' h]
  simp
theorem range'_take {st n i : Nat} (h : i < n) : (List.range' st n).take (i + 1) = (List.range' st n).take i ++ [st + i] := by rw [List.take_add_one, range'_at h]; rfl
end DP
set_option Elab.async false
set_option linter.all false
set_option maxRecDepth 100000
set_option maxHeartbeats 1000000
namespace DP
open PySem L2 PyProof.Rows
theorem rgOk_nat {n : Nat} (h : n ≤ 1000000) : RgOk 0 (n : Int) := by
  unfold RgOk
  simp
  omega
/-! ### enumerate of a tuple -/
set_option maxHeartbeats 2000000 in
theorem enumT_new (t : Addr) (items : Array Value) :
    Meets (Builtin.«enumerate.__new__» ⟨[.type "enumerate", .ref t], []⟩) (fun _ R s => s.heap.IsTuple t items ∧
      R (.ok (.ret (.ref (s.heap.push { cls := .type "tuple_iterator", data := .fields #[.ref t, .int 0 0] }).objs.size))) { s with heap := (s.heap.push { cls := .type "tuple_iterator", data := .fields #[.ref t, .int 0 0] }).push { cls := .type "enumerate", data := .fields #[.none, .bool false, .ref s.heap.objs.size, rawInt 0, .none, .none] } }) :=
  .of_wp fun prog w A R s h => by
    obtain ⟨hp, g, d, tk, os⟩ := s
    obtain ⟨hT, h⟩ := h
    have hsub := sub_enumerate
    have q1 : ∀ {A' : Around} {E : Value → Shared → Prop} {Q : Value → Shared → Prop}, Q (.ref hp.objs.size) ⟨hp.push { cls := .type "tuple_iterator", data := .fields #[.ref t, .int 0 0] }, g, d, tk, os⟩ → wpAny (model prog w) A' (pyIter (.ref t)) Q E ⟨hp, g, d, tk, os⟩ := fun q => wpAny_pyIter_tuple hT q
    wp_walk using q1
    refine wpAny_stack_any fun st => wpAny_pure ?_
    split
    · rename_i c _ _ _ _ _
      cases (c == Value.type "enumerate")
      · wp_walk using q1
        exact ⟨_, rfl, h⟩
      · wp_walk using q1
        exact ⟨_, rfl, h⟩
    · wp_walk using q1
      exact ⟨_, rfl, h⟩
theorem call_enumT {prog : Program} {w : World} {A : Around} {E : Value → Shared → Prop} {s : Shared} {t : Addr} {items : Array Value} {Q : Value → Shared → Prop} (hT : s.heap.IsTuple t items)
    (h : ∀ h', IsEnum h' (s.heap.objs.size + 1) s.heap.objs.size 0 .none → h'.IsTupleIter s.heap.objs.size t 0 → (∀ b o, s.heap.get? b = some o → h'.get? b = some o) → Q (.ref (s.heap.objs.size + 1)) { s with heap := h' }) :
    wpAny (model prog w) A (call (.type "enumerate") [.ref t]) Q E s := by
  refine callType_new F.called_enumerate (by decide) (F.typeCall_enumerate_1 _) (F.newCall_enumerate_1 _) (fun ob => F.args_object_init_2 ob _) F.entry_enumerate_new (enumT_new t items) ⟨hT, ?_⟩
  have hz : (s.heap.push { cls := .type "tuple_iterator", data := .fields #[.ref t, .int 0 0] }).objs.size = s.heap.objs.size + 1 := Heap.size_push ..
  show _ ∧ _
  rw [hz]
  have he : IsEnum ((s.heap.push { cls := .type "tuple_iterator", data := .fields #[.ref t, .int 0 0] }).push { cls := .type "enumerate", data := .fields #[.none, .bool false, .ref s.heap.objs.size, rawInt 0, .none, .none] }) (s.heap.objs.size + 1) s.heap.objs.size 0 .none := by
    have z := Heap.get?_push_size (s.heap.push { cls := .type "tuple_iterator", data := .fields #[.ref t, .int 0 0] }) (o := { cls := .type "enumerate", data := .fields #[.none, .bool false, .ref s.heap.objs.size, rawInt 0, .none, .none] }) rfl
    rw [hz] at z
    exact z
  exact ⟨⟨_, he, rfl⟩, h _ he ⟨_, Heap.get?_push_of_some _ (Heap.get?_push_size _ rfl), rfl, rfl⟩ fun b o x => Heap.get?_push_of_some _ (Heap.get?_push_of_some _ x)⟩
/-- the tuple at a, each item in a new pair -/
def ItET (K : PySem.W.Frag) (a : Addr) : It :=
  ⟨fun i H => ∃ (xs : List V) (x : V), SqT K H a xs ∧ xs[i]? = some x, fun i H v H' => ∃ T x, v = .ref T ∧ H T = none ∧ H' = upd H T (.tup [.int (i : Nat), x]) ∧ ∀ xs, SqT K H a xs → xs[i]? = some x, fun i H => ∃ xs : List V, SqT K H a xs ∧ xs.length = i⟩
theorem turn_enumT {P : Program} {w : World} {K : PySem.W.Frag} {elts : List Expr} {kk : Nat} {tpos : Pos} {a e it : Addr} (hei : e ≠ it) (hea : e ≠ a) (hai : a ≠ it) :
    Turn P w K (.Tuple elts kk tpos) (ItET K a) [e, it] e (fun i h => (∃ old, IsEnum h e it ((i : Nat) : Int) old) ∧ h.IsTupleIter it a i) where
  mem := by simp
  obj := fun i h st b hb => by
    obtain ⟨⟨old, he⟩, ⟨o, ho, hc, hd⟩⟩ := st
    rcases (show b = e ∨ b = it by simpa using hb) with z | z
    · subst z; exact ⟨_, he, fun v q => nomatch q⟩
    · subst z; exact ⟨o, ho, fun v q => by rw [hd] at q; cases q⟩
  keep := fun i h h' st k => by
    obtain ⟨⟨old, he⟩, hi⟩ := st
    exact ⟨⟨old, k e (by simp) _ he⟩, hi.at fun o q => k it (by simp) o q⟩
  item := by
    intro X hP hw hK hc i pins s σ H E I hf st hg
    subst hP hw hK
    obtain ⟨⟨old, he⟩, hit⟩ := st
    obtain ⟨xs, x, hq, hx⟩ := hg
    obtain ⟨its, rv, p, hz⟩ := I.tuple hq
    obtain ⟨u, hu, ru⟩ := rv.get hx
    have hel : e < s.heap.objs.size := Heap.lt_size he
    have hil : it < s.heap.objs.size := by obtain ⟨_, q, _⟩ := hit; exact Heap.lt_size q
    have hh := I.ok.hd hc
    have hlt : i < its.toArray.size := by have := (List.getElem?_eq_some_iff.mp hu).1; simpa using this
    refine wpAny_pyNext_enum_itemD (Draws.tuple (A := X.A.in1) hh it a hai its.toArray) he ⟨hit, p⟩ hlt hei (by simp [hei, hea]) fun x1 h' tk e1 ho hit' hT hsz hk => ?_
    have e1 : x1 = u := by
      have e2 : its[i]? = some x1 := by simpa using e1
      rw [hu] at e2
      exact (Option.some.inj e2).symm
    subst e1
    refine ⟨_, rfl, wpAny_letOwnedTupleGo_enum (s := { s with heap := h', toks := tk + 1 }) ho fun h'' he' sb => ?_⟩
    have hT2 : h''.get? s.heap.objs.size = some { cls := .type "tuple", data := .seq #[.int i tk, x1] } := (sb.2 _ (Nat.ne_of_gt hel)).trans hT
    have new : ObjOk X.prog X.w (upd H s.heap.objs.size (.tup [.int (i : Nat), x])) h'' s.heap.objs.size (.tup [.int (i : Nat), x]) := ⟨by show 2 ≤ sizeLine; decide, [.int i tk, x1], .cons ⟨_, rfl⟩ (.cons ru .nil), ⟨_, hT2, rfl, _, rfl⟩⟩
    have I1 : Inv X pins σ (upd H s.heap.objs.size (.tup [.int (i : Nat), x])) { s with heap := h'', toks := tk + 1 } :=
      I.turnedNew (t' := tk + 1) (ch := [e, it]) (fun b ob hb q => (sb.2 b (fun z => hb (by simp [z]))).trans (hk b ob (fun z => hb (by simp [z])) (fun z => hb (by simp [z])) q)) hf (Nat.le_refl _) new
    refine ⟨.ref s.heap.objs.size, _, I1, rfl, ⟨_, x, rfl, I.hok.fresh (Nat.le_refl _), rfl, fun ys hy => by rw [I.tuple_inj hy hq]; exact hx⟩, ⟨⟨x1, ?_⟩, hit'.1.at fun o q => (sb.2 it (Ne.symm hei)).trans q⟩, fun b hb => ?_⟩
    · have e1 : ((i + 1 : Nat) : Int) = (i : Int) + 1 := by omega
      rw [e1]
      exact he'
    · have hb' : b < s.heap.objs.size := by
        rcases (show b = e ∨ b = it by simpa using hb) with z | z
        · subst z; exact hel
        · subst z; exact hil
      rw [upd_ne (Nat.ne_of_lt hb')]
      exact (hf b hb).1
  done := by
    intro X hP hw hK hc i pins s σ H E I hf st hg
    subst hP hw hK
    obtain ⟨⟨old, he⟩, hit⟩ := st
    obtain ⟨xs, hq, hx⟩ := hg
    obtain ⟨its, rv, p, hz⟩ := I.tuple hq
    have hl := rv.length
    have hh := I.ok.hd hc
    have hsz : its.toArray.size = i := by simp; omega
    refine wpAny_pyNext_enum_endD (Draws.tuple (A := X.A.in1) hh it a hai its.toArray) he ⟨by rw [hsz]; exact hit, p⟩ fun h' hk => ⟨rfl, I.turnedL (t' := s.toks) (ch := [e, it]) (fun b o hb q => hk b o (fun z => hb (by simp [z])) q) hf⟩
  self := fun A i s Q E st h => by
    obtain ⟨⟨_, he⟩, _⟩ := st
    exact wpAny_pyIter_enum he h
def iEnumT (K : PySem.W.Frag) (ta : TA) : TI := fun σ H R => ta σ H fun vs H1 => ∃ a xs, vs = [.ref a] ∧ SqT K H1 a xs ∧ R (ItET K a) H1
theorem pi_enumT {X : Cx} {e : Expr} {ta : TA} {p pos tpos : Pos} {elts : List Expr} {kk : Nat} (hg : Gl X "enumerate") (hm : X.mg "enumerate" = none) (ha : PA X [e] ta) (hs : starEach [e] X.env = [(false, eval e X.env)] := by rfl) :
    PI X (.Tuple elts kk tpos) (.Call (.Name "enumerate" p) [e] [] pos) (iEnumT X.K ta) := by
  refine ⟨fun pins s σ H R I h => ?_⟩
  refine Call_ (ld_blt I hg hm boot_enumerate (PyProof.Rows.callWith_type1 (thn (ha.run pos pins s σ H _ I h) fun us s1 ⟨vs, H1, I1, r1, q1⟩ => ?_) hs rfl))
  obtain ⟨a, xs, rfl, hq, q⟩ := q1
  obtain ⟨u, rfl, ru⟩ := vals1 r1
  obtain rfl : u = Value.ref a := ru
  obtain ⟨its, rv, p', hz⟩ := I1.tuple hq
  refine call_enumT p' fun h' he hit hk => wpAny_pyIter_enum he ?_
  have I2 : Inv X pins σ H1 { s1 with heap := h' } := I1.kept (t' := s1.toks) hk
  have hal : a < s1.heap.objs.size := by obtain ⟨o, ho, _⟩ := p'; exact Heap.lt_size ho
  refine ⟨s1.heap.objs.size + 1, [s1.heap.objs.size + 1, s1.heap.objs.size], _, _, H1, rfl, I2, turn_enumT (a := a) (e := s1.heap.objs.size + 1) (it := s1.heap.objs.size) (Nat.succ_ne_self _) (Nat.ne_of_lt (Nat.lt_succ_of_lt hal)).symm (Nat.ne_of_lt hal), ⟨⟨.none, he⟩, hit⟩, fun b hb => ?_, q⟩
  have hle : s1.heap.objs.size ≤ b := by
    rcases (show b = s1.heap.objs.size + 1 ∨ b = s1.heap.objs.size by simpa using hb) with z | z
    · rw [z]; exact Nat.le_succ _
    · rw [z]; exact Nat.le_refl _
  exact I1.fpOk hle (I1.hok.fresh hle)
theorem walk_enumT {K : PySem.W.Frag} {a : Addr} {xs : List V} : Walk (ItET K a) xs.length (fun H => SqT K H a xs) (YPair (fun i => some (.int (i : Nat))) (fun i => xs[i]?)) where
  goes := fun i H hi hG => ⟨xs, xs[i], hG, List.getElem?_eq_getElem hi⟩
  stops := fun H hG => ⟨xs, hG, rfl⟩
  yields := fun i H v H' hi hG hY => by
    obtain ⟨T, x, h1, h2, h3, h4⟩ := hY
    exact ⟨T, _, x, h1, h2, h3, rfl, h4 xs hG⟩
section
variable {X : Cx} {P : Program} {w : World} {K : PySem.W.Frag} {mg : Str → Option Value} {base : Heap} {N : List Str} {sc : Scope} {k : Nat} {lv : Bool}
variable {σ : L2.St} {H : Hp} {e : Expr} {pos p : Pos}
theorem i_EnT {R : It → Hp → Prop} {elts : List Expr} {kk : Nat} {tpos : Pos} (C : Kx X P w K mg base N sc k lv) (B : Bn mg) (h : wE X e σ H fun v H1 => ∃ a xs, v = .ref a ∧ SqT K H1 a xs ∧ ∀ J, Walk J xs.length (fun H => SqT K H a xs) (YPair (fun i => some (.int (i : Nat))) (fun i => xs[i]?)) → R J H1)
    (hg : sc.names.lookup ("enumerate" : Str) = some .globalImplicit := by rfl) (hs : starEach [e] X.env = [(false, eval e X.env)] := by rfl) : wI X (.Tuple elts kk tpos) (.Call (.Name "enumerate" p) [e] [] pos) σ H R := by
  have e3 := C.eK; subst e3
  exact goI (pi_enumT (C.gl hg) (by rw [C.emg]; exact B.n_enumerate) (pa_cons peW pa_nil hs) hs) (show wE X e σ H fun v H1 => ∃ a xs, [v] = [.ref a] ∧ SqT X.K H1 a xs ∧ R (ItET X.K a) H1 from
    wE_mono (fun v H1 ⟨a, xs, ev, hq, q⟩ => ⟨a, xs, by rw [ev], hq, q _ walk_enumT⟩) h)
/-- list(range(n)) -/
theorem e_listR {Q : VK} {p2 pos2 : Pos} (C : Kx X P w K mg base N sc k lv) (B : Bn mg) (h : wE X e σ H fun v H1 => ∃ n : Nat, v = nI n ∧ n ≤ 1000000 ∧ ∀ q H2, H1 q = none → Ex H1 H2 → H2 q = some (.lst ((List.range n).map nI)) → Q (.ref q) H2)
    (hg : sc.names.lookup ("list" : Str) = some .globalImplicit := by rfl) (hg2 : sc.names.lookup ("range" : Str) = some .globalImplicit := by rfl) (na : starEach [e] X.env = (false, eval e X.env) :: starEach [] X.env := by rfl) (nb : starEach [Expr.Call (.Name "range" p2) [e] [] pos2] X.env = (false, eval (.Call (.Name "range" p2) [e] [] pos2) X.env) :: starEach [] X.env := by rfl) :
    wE X (.Call (.Name "list" p) [.Call (.Name "range" p2) [e] [] pos2] [] pos) σ H Q := by
  refine goE (pe_listRg C.calm (C.gl hg) (by rw [C.emg]; exact B.n_list) (prg_1 (C.gl hg2) (by rw [C.emg]; exact B.n_range) peW na) nb) ?_
  show wE X e σ H _
  refine wE_mono (fun v H1 ⟨n, hv, hn, q⟩ => ⟨(n : Int), hv, ?_, fun p np => ?_⟩) h
  · exact rgOk_nat hn
  · have e1 : rgV 0 ((n : Nat) : Int) = (List.range n).map nI := by
      unfold rgV
      simp [nI]
    rw [e1]
    exact q p _ np (Ex.new np) upd_same
end
end DP
set_option Elab.async false
set_option linter.all false
set_option maxRecDepth 100000
set_option maxHeartbeats 1000000
namespace DP
open PySem L2 PyProof.Rows PySem.SeqAt
section
variable {prog : Program} {w : World} {A : Around} {E : Value → Shared → Prop} {s : Shared}
theorem rev_places (n : Nat) : Builtin.Slice.sliceAdjust none none (-1) (n : Int) = ((n : Int) - 1, -1) := rfl
theorem rev_count (n : Nat) : Builtin.Slice.slicePlaces ((n : Int) - 1) (-1) (-1) = n := by
  unfold Builtin.Slice.slicePlaces
  rw [if_neg (by decide)]
  by_cases h : (n : Int) - 1 > -1
  · rw [if_pos h, show (- -1 : Int) = 1 by decide, Int.ediv_one]
    omega
  · rw [if_neg h]
    omega
theorem rev_items (xs : Array Value) : ((List.range xs.size).filterMap fun (k : Nat) => xs[((xs.size : Int) - 1 + (k : Int) * (-1)).toNat]?).toArray = xs.toList.reverse.toArray := by
  congr 1
  have e : ((List.range xs.size).filterMap fun (k : Nat) => xs[((xs.size : Int) - 1 + (k : Int) * (-1)).toNat]?) = ((List.range xs.size).map fun k => xs.size - 1 - k).filterMap (xs[·]?) := by
    rw [List.filterMap_map]
    have hall : ∀ l : List Nat, (∀ k ∈ l, k < xs.size) → (l.filterMap fun (k : Nat) => xs[((xs.size : Int) - 1 + (k : Int) * (-1)).toNat]?) = l.filterMap ((xs[·]?) ∘ fun k => xs.size - 1 - k) := by
      intro l
      induction l with
      | nil => intro _; rfl
      | cons k l ih =>
        intro h
        have hk := h k (by simp)
        have e : ((xs.size : Int) - 1 + (k : Int) * (-1)).toNat = xs.size - 1 - k := by omega
        rw [List.filterMap_cons, List.filterMap_cons, ih fun z hz => h z (by simp [hz]), e]
        rfl
    exact hall _ fun k hk => List.mem_range.mp hk
  rw [e, PySem.W.krv_range, List.filterMap_reverse, PySem.W.krv_all]
theorem getItem_revn {t sl : Addr} {its : List Value} {vl vu vs : Value} {Q : Value → Shared → Prop} (hz : its.length ≤ sizeLine) (ht : IsTup s.heap t its.toArray) (hs : s.heap.IsSliceOf sl vl vu vs) (pl : IsPart vl none) (pu : IsPart vu none) (ps : IsPart vs (some (-1)))
    (h : Q (.ref s.heap.objs.size) { s with heap := s.heap.push { cls := .type "tuple", data := .seq its.reverse.toArray } }) : wpAny (model prog w) A (getItem (.ref t) (.ref sl)) Q E s := by
  obtain ⟨os, hos, hcs, hds⟩ := id hs
  have hTs : s.TypeIs (.ref sl) "slice" := ⟨os, hos, hcs⟩
  unfold getItem
  try with_reducible refine wpAny_holding ?_
  first | refine wpAny_bind (wpAny_pure ?_) | skip
  refine wpAny_bind (wpAny_sequenceKey ht.typeIs (by decide) ?_)
  refine wpAny_bind (wpAny_callSpecial?_slot (name := Str.ofString "__getitem__") ht.typeIs PyProof.Rows.slot_tuple_getitem
    (wpAny_call_entry PyProof.Rows.slot_tuple_getitem ht.typeIs entry_tuple_getitem ?_ (args_tuple_getitem _ _)))
  show wpAny _ _ (Builtin.Tuple.tupleItemsOf (.ref t) >>= _) _ _ s
  refine wpAny_bind (tupleItemsOf_ ht ?_)
  refine wpAny_bind (wpAny_typeOf hTs ?_)
  rw [if_pos (by decide)]
  refine wpAny_bind (sliceRev hs pl pu ps ?_)
  rw [rev_places]
  dsimp only
  rw [rev_count]
  rw [if_neg (by intro q; rw [Bool.and_eq_true, Bool.and_eq_true] at q; exact absurd q.1.2 (by decide))]
  rw [rev_items]
  have hz : sizeOk (.seq its.reverse.toArray) := by show its.reverse.toArray.size ≤ sizeLine; simpa using hz
  first
    | exact wpAny_bind (m := Builtin.Tuple.tupleExact _) (wpAny_newObj_type (wpAny_pure ⟨_, rfl, wpAny_pure h⟩) hz)
    | exact wpAny_bind (m := Builtin.Tuple.tupleExact _) (wpAny_newObj_type (wpAny_bind (wpAny_pure (wpAny_pure ⟨_, rfl, wpAny_pure h⟩))) hz)
    | exact wpAny_bind (wpAny_bind (m := Builtin.Tuple.tupleExact _) (wpAny_newObj_type (wpAny_pure (wpAny_pure ⟨_, rfl, wpAny_pure h⟩)) hz))
    | exact wpAny_bind (wpAny_bind (m := Builtin.Tuple.tupleExact _) (wpAny_newObj_type (wpAny_pure ⟨_, rfl, wpAny_pure h⟩) hz))
end
section
variable {X : Cx}
def tRevN (K : PySem.W.Frag) (te : TE) : TE := fun σ H Q => te σ H fun x H1 => ∃ a xs, x = .ref a ∧ SqT K H1 a xs ∧ ∀ p, H1 p = none → Q (.ref p) (upd H1 p (.tup xs.reverse))
theorem pe_revN {e : Expr} {te : TE} {k : Nat} {p1 p2 p3 pos : Pos} (he : PE X e te) : PE X (.Subscript e (.Slice none none (some (.UnaryOp .USub (.Constant (.int 1) k p1) p2)) p3) pos) (tRevN X.K te) := by
  refine ⟨fun pins s σ H Q I h => ?_⟩
  refine Subscript_ (thn (he.run pins s σ H _ I h) fun v s1 ⟨x, H1, I1, r1, q1⟩ => ?_)
  obtain ⟨a, xs, ex, hx, q⟩ := q1
  subst ex
  cases r1
  have hst : PO X (some (.UnaryOp .USub (.Constant (.int 1) k p1) p2)) (tPart (tUn (rU fun i => .int (-i)) (tC (.int 1)))) := po_some (pe_un un_neg pe_int)
  refine wpAny_Slice (thn (po_none.run pins s1 σ H1 (fun o H2 => o = none ∧ H2 = H1) I1 ⟨rfl, rfl⟩) fun vl s2 ⟨l, H2, I2, pl, el, e2⟩ => ?_)
  subst el e2
  refine thn (po_none.run pins s2 σ H2 (fun o H3 => o = none ∧ H3 = H2) I2 ⟨rfl, rfl⟩) fun vu s3 ⟨u, H3, I3, pu, eu, e3⟩ => ?_
  subst eu e3
  refine thn (hst.run pins s3 σ H3 (fun o H4 => o = some (-1) ∧ H4 = H3) I3 ⟨1, rfl, -1, rfl, rfl, rfl⟩) fun vs s4 ⟨o, H4, I4, ps, eo, e4⟩ => ?_
  subst eo e4
  have I5 : Inv X pins σ H4 { s4 with heap := s4.heap.push { cls := .type "slice", data := .fields #[vl, vu, vs] } } := I4.kept (t' := s4.toks) fun b ob q => Heap.get?_push_of_some _ q
  obtain ⟨its, r, ht, hz⟩ := I5.tuple hx
  have hlen : its.length = xs.length := r.length.symm
  show wpAny (model X.prog X.w) X.A (subscriptTail e (.Slice none none (some (.UnaryOp .USub (.Constant (.int 1) k p1) p2)) p3) (.ref a) (.ref s4.heap.objs.size)) (EP X pins σ Q) X.xe { s4 with heap := s4.heap.push { cls := .type "slice", data := .fields #[vl, vu, vs] } }
  refine tail_any (ops := [.ref a, .ref s4.heap.objs.size]) ht.typeIs (PyProof.Rows.slot_tuple_getitem.lookup) ?_ (by with_unfolding_all rfl)
  refine getItem_revn (its := its) (by rw [hlen]; exact hz) ht (Heap.IsSliceOf.new _ vl vu vs) pl pu ps ?_
  refine ⟨.ref _, _, I5.laid (t' := s4.toks) (o := .tup xs.reverse) (fun b ob q => Heap.get?_push_of_some _ q) (Nat.le_refl _) ?_, rfl, q _ (I5.hok.fresh (Nat.le_refl _))⟩
  exact ⟨by rw [List.length_reverse]; exact hz, its.reverse, r.reverse, IsTup.new _ _⟩
end
section
variable {X : Cx} {P : Program} {w : World} {K : PySem.W.Frag} {mg : Str → Option Value} {base : Heap} {N : List Str} {sc : Scope} {k : Nat} {lv : Bool}
variable {σ : L2.St} {H : Hp} {Q : VK} {e : Expr} {pos : Pos} {a b : Addr} {xs ys : List V}
/-- t[::-1] -/
theorem e_revN (C : Kx X P w K mg base N sc k lv) {j : Nat} {p1 p2 p3 : Pos} (h : wE X e σ H fun x H1 => ∃ a xs, x = .ref a ∧ SqT K H1 a xs ∧ ∀ p H2, H1 p = none → Ex H1 H2 → H2 p = some (.tup xs.reverse) → Q (.ref p) H2) :
    wE X (.Subscript e (.Slice none none (some (.UnaryOp .USub (.Constant (.int 1) j p1) p2)) p3) pos) σ H Q := by
  have e3 := C.eK; subst e3
  exact goE (pe_revN peW) (show wE X e σ H fun x H1 => ∃ a xs, x = .ref a ∧ SqT X.K H1 a xs ∧ ∀ p, H1 p = none → Q (.ref p) (upd H1 p (.tup xs.reverse)) from
    wE_mono (fun _ _ ⟨a, xs, h1, h2, q⟩ => ⟨a, xs, h1, h2, fun p np => q p _ np (Ex.new np) upd_same⟩) h)
/-- two tuples put together, neither of them empty -/
theorem o_catT (C : Kx X P w K mg base N sc k lv) (ha : SqT K H a xs) (hb : SqT K H b ys) (hx : xs ≠ []) (hy : ys ≠ []) (hl : xs.length + ys.length ≤ sizeLine) (h : ∀ p H2, H p = none → Ex H H2 → H2 p = some (.tup (xs ++ ys)) → Q (.ref p) H2) : wOp X (binaryOp .Add) (.ref a) (.ref b) H Q := by
  have e3 := C.eK; subst e3
  exact goOp op_catT ⟨a, b, xs, ys, rfl, rfl, ha, hb, hx, hl, fun z => absurd z hy, fun _ p np => h p _ np (Ex.new np) upd_same⟩
theorem kb_it : kitB "int" "tuple" = some false := by decide +kernel
theorem isi_it (C : Kx X P w K mg base N sc k lv) {i : Int} (h : Q (.bl false) H) : wC X (.builtin "isinstance") [.int i, .ty "tuple"] H Q := c_isi C (.base (.int i)) kb_it h
end
/-! ### four hundred years later -/
def sh4 (d : Dt) : Dt := (d.1 + 400, d.2.1, d.2.2)
theorem isLong_sh (y : Int) : isLong (y + 400) = isLong y := by
  unfold isLong
  rw [show (y + 400) % 4 = y % 4 by omega, show (y + 400) % 100 = y % 100 by omega, show (y + 400) % 400 = y % 400 by omega]
theorem mlen_sh (y m : Int) : mlen (y + 400) m = mlen y m := by unfold mlen; rw [isLong_sh]
theorem piy_sh (d : Dt) : piy (sh4 d) = piy d := by
  unfold piy sh4
  dsimp only
  have : (fun (i : Nat) => mlen (d.1 + 400) (1 + (i : Int))) = fun (i : Nat) => mlen d.1 (1 + (i : Int)) := by funext i; rw [mlen_sh]
  rw [this]
theorem wdName_sh (d : Dt) : wdName (sh4 d) = wdName d := by
  unfold wdName
  have : wdIx (sh4 d) = wdIx d := by
    unfold wdIx
    rw [piy_sh]
    show (365 * (d.1 + 400 - 1) + (d.1 + 400 - 1) / 4 - (d.1 + 400 - 1) / 100 + (d.1 + 400 - 1) / 400 + piy d - 1) % 7 = _
    omega
  rw [this]
theorem ival_sh {p : Str} (d : Dt) (h : p ≠ "YYYY") : ival p (sh4 d) = ival p d := by
  unfold ival
  rw [piy_sh]
  simp only [if_neg h]
  show (if _ then d.2.2 else if _ then d.2.1 else if _ then piy d else (d.1 + 400) % 100) = _
  rw [show (d.1 + 400) % 100 = d.1 % 100 by omega]
theorem sval_sh (p : Str) (d : Dt) : sval p (sh4 d) = sval p d := by unfold sval; rw [wdName_sh]; rfl
theorem pc_sh {p : Str} (d : Dt) (h : p ≠ "YYYY") : pc p (sh4 d) = pc p d := by unfold pc; rw [ival_sh d h, sval_sh]
theorem wr_sh {ps : List Str} (d : Dt) (h : ¬ (("YYYY" : Str) ∈ ps)) : wr ps (sh4 d) = wr ps d := by
  unfold wr
  congr 1
  exact List.map_congr_left fun p hp => pc_sh d fun e => h (e ▸ hp)
theorem fkey_sh {p : Str} (d : Dt) (h : p ≠ "YYYY") : fkey p (sh4 d) = fkey p d := by unfold fkey; rw [ival_sh d h, sval_sh]
theorem mis_sh {ps : List Str} (d : Dt) (h : ¬ (("YYYY" : Str) ∈ ps)) : misD ps (sh4 d) = misD ps d := by
  unfold misD
  have : dueF ps (sh4 d) = dueF ps d := by
    unfold dueF
    exact List.map_congr_left fun p hp => fkey_sh d fun e => h (e ▸ (List.mem_filter.mp hp).1)
  rw [wr_sh d h, this]
theorem dates_sh (y : Int) : datesIn (y + 400) (y + 400) = (datesIn y y).map sh4 := by
  rw [dates_one, dates_one]
  unfold yearDays
  rw [List.map_flatMap]
  congr 1
  funext i
  unfold monthDays
  rw [mlen_sh, List.map_map]
  rfl
def shP (p : Dt × Dt) : Dt × Dt := (sh4 p.1, sh4 p.2)
theorem clash_sh {f : Dt → Str} {ds : List Dt} {o : Option (Dt × Dt)} (hf : ∀ d, f (sh4 d) = f d) (h : Clash f ds o) : Clash f (ds.map sh4) (o.map shP) := by
  have hm : ∀ l : List Dt, (l.map sh4).map f = l.map f := fun l => by rw [List.map_map]; exact List.map_congr_left fun d _ => hf d
  rcases h with ⟨rfl, h⟩ | ⟨e, d, rfl, p1, p2, rfl, h1, h2⟩
  · exact .inl ⟨rfl, by rw [hm]; exact h⟩
  · refine .inr ⟨sh4 e, sh4 d, rfl, p1.map sh4, p2.map sh4, by simp, by rw [hm]; exact h1, ?_⟩
    rw [List.find?_map]
    have : ((fun x => decide (f x = f (sh4 d))) ∘ sh4) = fun x => decide (f x = f d) := by funext x; simp [hf]
    rw [this, h2]
    rfl
theorem uns_sh {f : Dt → Str} (hf : ∀ d, f (sh4 d) = f d) (ds : List Dt) : unsOf f (ds.map sh4) = (unsOf f ds).map sh4 := by
  rw [unsOf_R, unsOf_R]
  induction ds with
  | nil => rfl
  | cons x l ih =>
    cases l with
    | nil => rfl
    | cons y r =>
      show (if slt (f (sh4 x)) (f (sh4 y)) = true then unsR f ((y :: r).map sh4) else some (sh4 x)) = (if slt (f x) (f y) = true then unsR f (y :: r) else some x).map sh4
      rw [hf, hf, ih]
      split <;> rfl
theorem misOf_sh {ps : List Str} (h : ¬ (("YYYY" : Str) ∈ ps)) (ds : List Dt) : misOf ps (ds.map sh4) = (misOf ps ds).map sh4 := by
  unfold misOf
  rw [List.find?_map]
  have : (misD ps ∘ sh4) = misD ps := by funext d; exact mis_sh d h
  rw [this]
theorem lens_sh {f : Dt → Str} (hf : ∀ d, f (sh4 d) = f d) (ds : List Dt) : lens f (ds.map sh4) = lens f ds := by
  unfold lens
  rw [List.map_map]
  exact List.map_congr_left fun d _ => by simp [hf]
section
variable {K : PySem.W.Frag} {H : Hp} {Q : VK} {E : XK} {v : V}
def sp_later (K : PySem.W.Frag) (n : Nat) : Sp := fun vs H Q _ => ∃ v, vs = [v] ∧ ((v = .non ∧ ∀ H', Ex H H' → Q .non H') ∨ (∃ d, DateV K H d v ∧ ∀ r H', Ex H H' → DateV K H' (sh4 d) r → Q r H') ∨ (n = 1 ∧ ∃ p, PairV K H p v ∧ ∀ r H', Ex H H' → PairV K H' (shP p) r → Q r H'))
theorem u_later0 {n : Nat} {d : Dt} (h : DateV K H d v) (q : ∀ r H', Ex H H' → DateV K H' (sh4 d) r → Q r H') : sp_later K n [v] H Q E := ⟨v, rfl, .inr (.inl ⟨d, h, q⟩)⟩
theorem u_laterO {o : Option (Dt × Dt)} (h : OptV K H o v) (q : ∀ r H', Ex H H' → OptV K H' (o.map shP) r → Q r H') : sp_later K 1 [v] H Q E := by
  cases o with
  | none => exact ⟨v, rfl, .inl ⟨h, fun H' x => q _ _ x rfl⟩⟩
  | some p => exact ⟨v, rfl, .inr (.inr ⟨rfl, p, h, fun r H' x hr => q r H' x hr⟩)⟩
theorem u_laterD {o : Option Dt} (h : OptD K H o v) (q : ∀ r H', Ex H H' → OptD K H' (o.map sh4) r → Q r H') : sp_later K 1 [v] H Q E := by
  cases o with
  | none => exact ⟨v, rfl, .inl ⟨h, fun H' x => q _ _ x rfl⟩⟩
  | some d => exact ⟨v, rfl, .inr (.inl ⟨d, h, fun r H' x hr => q r H' x hr⟩)⟩
end
/-! ### bars: what they tell -/
theorem nodup_comp {α β γ : Type} {f : α → β} {g : α → γ} {h : β → γ} (e : ∀ a, g a = h (f a)) {l : List α} (hn : (l.map g).Nodup) : (l.map f).Nodup := by
  have : l.map g = (l.map f).map h := by rw [List.map_map]; exact List.map_congr_left fun a _ => e a
  rw [this] at hn
  exact List.Pairwise.of_map _ (fun a b hab z => hab (by rw [z])) hn
theorem nodup_compOn {α β γ : Type} {f : α → β} {g : α → γ} {h : β → γ} {l : List α} (e : ∀ a ∈ l, g a = h (f a)) (hn : (l.map g).Nodup) : (l.map f).Nodup := by
  have : l.map g = (l.map f).map h := by rw [List.map_map]; exact List.map_congr_left fun a ha => e a ha
  rw [this] at hn
  exact List.Pairwise.of_map _ (fun a b hab z => hab (by rw [z])) hn
def jn (ps : List Str) (d : Dt) : List Nat := ps.flatMap fun p => cs (pc p d)
theorem wr_cs (ps : List Str) (d : Dt) : cs (wr ps d) = jn ps d := by
  induction ps using snoc_ind with
  | h0 => rw [wr_nil]; rfl
  | h1 l p ih =>
    rw [wr_snoc]
    show (wr l d ++ pc p d).cps.toList = _
    rw [app_list]
    unfold jn at *
    rw [List.flatMap_append]
    show cs (wr l d) ++ _ = _
    rw [ih]
    simp
theorem pc_bar (d : Dt) : pc "|" d = "|" := pc_lit (by decide +kernel)
theorem pc_nobar {p : Str} {d : Dt} (h : okD d) (hp : p ∈ fields ∨ p ∈ lits) : ¬ 124 ∈ cs (pc p d) := by
  rcases pc_kind h hp with hk | ⟨n, k, h0, h1, e⟩
  · have hb : ∀ q ∈ monNames ++ wdNames ++ lits, ¬ 124 ∈ cs q := by decide +kernel
    rcases hk with hk | hk | hk
    · exact hb _ (by simp [hk])
    · exact hb _ (by simp [hk])
    · exact hb _ (by simp [hk])
  · rw [e]
    intro z
    have := pad_codes h0 z
    omega
/-- the texts of the parts that stand between bars -/
theorem strip_wbF {gaps : List Nat} {d : Dt} (h : okD d) : ∀ {ps : List Str} {i : Nat}, (∀ p ∈ ps, p ∈ fields ∨ p ∈ lits) → (jn (wbF "|" gaps i ps) d).filter (fun c => !decide (c = 124)) = jn ps d
  | [], _, _ => rfl
  | p :: r, i, hp => by
    have ih := strip_wbF h (gaps := gaps) (ps := r) (i := i + 1) fun q hq => hp q (by simp [hq])
    have hself : (cs (pc p d)).filter (fun c => !decide (c = 124)) = cs (pc p d) := List.filter_eq_self.mpr fun c hc => by
      have := pc_nobar h (hp p (by simp))
      simp
      exact fun z => this (z ▸ hc)
    unfold wbF
    split
    · show ((cs (pc p d)) ++ ((cs (pc "|" d)) ++ jn (wbF "|" gaps (i + 1) r) d)).filter _ = cs (pc p d) ++ jn r d
      rw [List.filter_append, List.filter_append, ih, hself, pc_bar]
      have : (cs ("|" : Str)).filter (fun c => !decide (c = 124)) = [] := by decide +kernel
      rw [this]
      rfl
    · show ((cs (pc p d)) ++ jn (wbF "|" gaps (i + 1) r) d).filter _ = cs (pc p d) ++ jn r d
      rw [List.filter_append, ih, hself]
theorem wb_nil (s : Str) (ps : List Str) : wb s ps [] = ps := by
  unfold wb
  have : ∀ (ps : List Str) (i : Nat), wbF s [] i ps = ps := by
    intro ps
    induction ps with
    | nil => intro i; rfl
    | cons p r ih => intro i; unfold wbF; rw [if_neg (by simp), ih]
  exact this ps 0
theorem ok_more {ps : List Str} {ds : List Dt} {gaps : List Nat} (hp : ∀ p ∈ ps, p ∈ fields ∨ p ∈ lits) (hd : ∀ d ∈ ds, okD d) (h : okB ps ds [] = true) : okB ps ds gaps = true := by
  unfold okB at *
  rw [wb_nil] at h
  refine decide_eq_true (nodup_compOn (h := fun t => ST ((cs t).filter fun c => !decide (c = 124))) (fun d hdm => ?_) (of_decide_eq_true h))
  rw [wr_cs]
  unfold wb
  rw [strip_wbF (hd d hdm) hp, ← wr_cs, ST_cs]
/-- with all bars: the texts are told apart by their parts -/
def between (ls : List (List Nat)) : List Nat := match ls with
  | [] => []
  | [a] => a
  | a :: b :: r => a ++ 124 :: between (b :: r)
theorem between_cons (a b : List Nat) (r : List (List Nat)) : between (a :: b :: r) = a ++ 124 :: between (b :: r) := by rw [between]
theorem split_bar {a b x y : List Nat} (ha : ¬ 124 ∈ a) (hb : ¬ 124 ∈ b) (h : a ++ 124 :: x = b ++ 124 :: y) : a = b ∧ x = y := by
  rcases List.append_eq_append_iff.mp h with ⟨r, h1, h2⟩ | ⟨r, h1, h2⟩
  · cases r with
    | nil => simp at h1 h2; exact ⟨h1.symm, h2⟩
    | cons c r =>
      simp at h2
      exact absurd (by rw [h1, ← h2.1]; simp) hb
  · cases r with
    | nil => simp at h1 h2; exact ⟨h1, h2.symm⟩
    | cons c r =>
      simp at h2
      exact absurd (by rw [h1, ← h2.1]; simp) ha
theorem between_inj : ∀ {xs ys : List (List Nat)}, xs.length = ys.length → (∀ x ∈ xs, ¬ 124 ∈ x) → (∀ y ∈ ys, ¬ 124 ∈ y) → between xs = between ys → xs = ys
  | [], [], _, _, _, _ => rfl
  | [a], [b], _, _, _, h => by
    have h : a = b := h
    rw [h]
  | a :: a2 :: r, b :: b2 :: r2, hl, hx, hy, h => by
    rw [between_cons, between_cons] at h
    obtain ⟨h1, h2⟩ := split_bar (hx a (by simp)) (hy b (by simp)) h
    have := between_inj (xs := a2 :: r) (ys := b2 :: r2) (by simpa using hl) (fun x hx' => hx x (List.mem_cons_of_mem _ hx')) (fun y hy' => hy y (List.mem_cons_of_mem _ hy')) h2
    rw [h1, this]
  | [], _ :: _, hl, _, _, _ => by simp at hl
  | _ :: _, [], hl, _, _, _ => by simp at hl
  | [_], _ :: _ :: _, hl, _, _, _ => by simp at hl
  | _ :: _ :: _, [_], hl, _, _, _ => by simp at hl
theorem all_bars {s : Str} {n : Nat} {d : Dt} (hs : pc s d = s) (hc : cs s = [124]) : ∀ {ps : List Str} {i : Nat}, i + ps.length = n + 1 → jn (wbF s (List.range n) i ps) d = between (ps.map fun p => cs (pc p d))
  | [], _, _ => rfl
  | [p], i, h => by
    have : ¬ i ∈ List.range n := by simp at h ⊢; omega
    unfold wbF
    rw [if_neg this]
    show cs (pc p d) ++ [] = cs (pc p d)
    simp
  | p :: q :: r, i, h => by
    have hi : i ∈ List.range n := by simp at h ⊢; omega
    have ih := all_bars (n := n) hs hc (ps := q :: r) (i := i + 1) (by simp at h ⊢; omega)
    unfold wbF
    rw [if_pos hi]
    show cs (pc p d) ++ (cs (pc s d) ++ jn (wbF s (List.range n) (i + 1) (q :: r)) d) = _
    rw [ih, hs, hc]
    exact (between_cons (cs (pc p d)) (cs (pc q d)) (r.map fun p => cs (pc p d))).symm
def pcsL (ps : List Str) (d : Dt) : List (List Nat) := ps.map fun p => cs (pc p d)
theorem nodup_inj {α β γ : Type} {f : α → β} {g : α → γ} {l : List α} (h : ∀ a ∈ l, ∀ b ∈ l, f a = f b → g a = g b) (hn : (l.map g).Nodup) : (l.map f).Nodup := by
  induction l with
  | nil => simp
  | cons a l ih =>
    rw [List.map_cons, List.nodup_cons] at *
    refine ⟨fun hm => ?_, ih (fun x hx y hy => h x (by simp [hx]) y (by simp [hy])) hn.2⟩
    obtain ⟨b, hb, e⟩ := List.mem_map.mp hm
    exact hn.1 (List.mem_map.mpr ⟨b, hb, h b (by simp [hb]) a (by simp) e⟩)
theorem ok_all {ps : List Str} {ds : List Dt} (hp : ∀ p ∈ ps, p ∈ fields ∨ p ∈ lits) (hd : ∀ d ∈ ds, okD d) (hl : 1 ≤ ps.length) : okB ps ds (List.range (ps.length - 1)) = decide ((ds.map (pcsL ps)).Nodup) := by
  have key : ∀ d, cs (wr (wb "|" ps (List.range (ps.length - 1))) d) = between (pcsL ps d) := fun d => by
    rw [wr_cs]
    exact all_bars (n := ps.length - 1) (i := 0) (pc_bar d) (by decide +kernel) (by omega)
  have hn : ∀ d ∈ ds, ∀ x ∈ pcsL ps d, ¬ 124 ∈ x := fun d hdm x hx => by
    obtain ⟨p, hpm, rfl⟩ := List.mem_map.mp hx
    exact pc_nobar (hd d hdm) (hp p hpm)
  unfold okB
  rw [Bool.eq_iff_iff, decide_eq_true_eq, decide_eq_true_eq]
  constructor
  · exact nodup_inj fun a _ b _ e => cs_inj (by rw [key, key, e])
  · exact nodup_inj fun a ha b hb e => between_inj (by simp [pcsL]) (hn a ha) (hn b hb) (by rw [← key, ← key, e])
theorem ok_rev {ps : List Str} {ds : List Dt} (hp : ∀ p ∈ ps, p ∈ fields ∨ p ∈ lits) (hd : ∀ d ∈ ds, okD d) (hl : 1 ≤ ps.length) : okB ps ds (List.range (ps.length - 1)) = okB ps.reverse ds (List.range (ps.reverse.length - 1)) := by
  rw [ok_all hp hd hl, ok_all (fun p h => hp p (List.mem_reverse.mp h)) hd (by simpa using hl), Bool.eq_iff_iff, decide_eq_true_eq, decide_eq_true_eq]
  have e : ∀ d, pcsL ps.reverse d = (pcsL ps d).reverse := fun d => by unfold pcsL; rw [List.map_reverse]
  constructor
  · exact nodup_inj fun a _ b _ z => by rw [e, e] at z; exact List.reverse_inj.mp z
  · exact nodup_inj fun a _ b _ z => by rw [e, e, z]
theorem chs_len_lt {g : Nat} {l : List Nat} (h : l ∈ barL g) : l.length < g := by
  unfold barL at h
  obtain ⟨s, hs, hl⟩ := List.mem_flatMap.mp h
  rw [chs_mem hl]
  exact List.mem_range.mp hs
theorem bars_len {ps : List Str} {ds : List Dt} {l : List Nat} (hl : 1 ≤ ps.length) (h : barsOf ps ds = some l) : l.length < ps.length := by
  unfold barsOf at h
  split at h
  · have h := Option.some.inj h
    cases hf : (barL (ps.length - 1)).find? (okB ps ds) with
    | none =>
      rw [hf] at h
      have h : List.range (ps.length - 1) = l := h
      rw [← h, List.length_range]
      omega
    | some l' =>
      rw [hf] at h
      have h : l' = l := h
      have := chs_len_lt (List.mem_of_find?_eq_some hf)
      rw [← h]
      omega
  · cases h
theorem bars_none {ps : List Str} {ds : List Dt} : (barsOf ps ds).isNone = !okB ps ds (List.range (ps.length - 1)) := by
  unfold barsOf
  cases okB ps ds (List.range (ps.length - 1)) <;> rfl
theorem bars_empty {ps : List Str} {ds : List Dt} (hp : ∀ p ∈ ps, p ∈ fields ∨ p ∈ lits) (hd : ∀ d ∈ ds, okD d) (hl : 1 ≤ ps.length) : decide (barsOf ps ds = some []) = decide ((ds.map (wr ps)).Nodup) := by
  have e0 : decide ((ds.map (wr ps)).Nodup) = okB ps ds [] := by unfold okB; rw [wb_nil]
  rw [e0]
  cases hk : okB ps ds [] with
  | true =>
    refine decide_eq_true ?_
    have hk2 := ok_more (gaps := List.range (ps.length - 1)) hp hd hk
    unfold barsOf
    rw [if_pos hk2]
    cases hg : ps.length - 1 with
    | zero => rfl
    | succ g =>
      have : barL (g + 1) = [] :: ((List.range g).map (· + 1)).flatMap fun s => chs (g + 1) s 0 := by
        unfold barL
        rw [List.range_succ_eq_map, List.flatMap_cons]
        rfl
      rw [this, List.find?_cons, hk]
      rfl
  | false =>
    refine decide_eq_false fun h => ?_
    unfold barsOf at h
    split at h
    · rename_i hr
      have h := Option.some.inj h
      cases hf : (barL (ps.length - 1)).find? (okB ps ds) with
      | none =>
        rw [hf] at h
        have h : List.range (ps.length - 1) = [] := h
        rw [h, hk] at hr
        cases hr
      | some l =>
        rw [hf] at h
        have h : l = [] := h
        have := List.find?_some hf
        rw [h, hk] at this
        cases this
    · cases h
theorem LPat.rev {n : Nat} {ps : List Str} (h : LPat n ps) : LPat n ps.reverse := by
  obtain ⟨⟨h1, h2⟩, h3, h4⟩ := h
  refine ⟨⟨fun p hp => h1 p (List.mem_reverse.mp hp), ?_⟩, by simpa using h3, by simpa using h4⟩
  have key : ∀ l : List Str, adj l = true → adj l.reverse = true := by
    intro l
    induction l with
    | nil => intro _; exact adj_nil
    | cons p r ih =>
      cases r with
      | nil => intro _; exact adj_one p
      | cons q r =>
        intro h
        rw [adj_cons, Bool.and_eq_true] at h
        have := ih h.2
        rw [List.reverse_cons] at this
        rw [List.reverse_cons, List.reverse_cons, adj_snoc, Bool.and_eq_true]
        exact ⟨this, by rw [Bool.or_comm]; exact h.1⟩
  exact key ps h2
def olD : Option (List Nat) → PyData
  | none => .none
  | some l => .list (l.map fun (n : Nat) => PyData.int (n : Int))
theorem dp_optL {K : PySem.W.Frag} {H0 H : Hp} {o : Option (List Nat)} {v : V} (h : OptL H0 H o v) : Dp K H v (olD o) := by
  cases o with
  | none => cases (show v = .non from h); exact .non
  | some l =>
    obtain ⟨p, rfl, _, hp⟩ := h
    have : DpAll K H (l.map nI) (l.map fun (n : Nat) => PyData.int (n : Int)) := by
      clear hp
      induction l with
      | nil => exact .nil
      | cons a l ih => exact .cons (.int _) ih
    exact .lst (SqL.of hp) this
theorem sh_olD (n : Nat) (o : Option (List Nat)) : sh (n + 1) (olD o) := by
  cases o with
  | none => exact sh_non _
  | some l => exact sh_list (shA_map fun a => sh_int n _)
theorem clean_olD (o : Option (List Nat)) : clean (olD o) = true := by
  cases o with
  | none => rfl
  | some l => exact cleanA_map fun _ => rfl
theorem olD_inj {a b : Option (List Nat)} (h : olD a = olD b) : a = b := by
  cases a with
  | none => cases b with
    | none => rfl
    | some b => cases h
  | some a => cases b with
    | none => cases h
    | some b =>
      have h : (a.map fun (n : Nat) => PyData.int (n : Int)) = b.map fun (n : Nat) => PyData.int (n : Int) := by unfold olD at h; injection h
      rw [map_inj (fun {a b} h => by injection h with h; omega) h]
theorem eqv_olD (a b : Option (List Nat)) : PyData.eqv (olD a) (olD b) = decide (a = b) := eqv_dec (clean_olD a) (clean_olD b) ⟨olD_inj, fun e => by rw [e]⟩
theorem OptL.ex {H0 H H' : Hp} {o : Option (List Nat)} {v : V} (e : Ex H H') (h : OptL H0 H o v) : OptL H0 H' o v := by
  cases o with
  | none => exact h
  | some l => obtain ⟨p, h1, h2, h3⟩ := h; exact ⟨p, h1, h2, e _ _ h3⟩
theorem optL_non {H0 H : Hp} {o : Option (List Nat)} {v : V} (h : OptL H0 H o v) : decide (v = .non) = o.isNone := by
  cases o with
  | none => exact decide_eq_true h
  | some l => obtain ⟨p, rfl, _⟩ := h; exact decide_eq_false fun e => by cases e
theorem optD_non {K : PySem.W.Frag} {H : Hp} {o : Option Dt} {v : V} (h : OptD K H o v) : decide (v = .non) = o.isNone := by
  cases o with
  | none => exact decide_eq_true h
  | some l => obtain ⟨p, rfl, _⟩ := h; exact decide_eq_false fun e => by cases e
end DP
set_option Elab.async false
set_option linter.all false
set_option maxRecDepth 100000
set_option maxHeartbeats 1000000
namespace DP
open PySem L2
section
variable {X : Cx} {P : Program} {w : World} {K : PySem.W.Frag} {mg : Str → Option Value} {base : Heap} {N : List Str} {sc : Scope} {k : Nat} {lv : Bool}
variable {σ : L2.St} {H : Hp} {pos p : Pos} {tg elt iter c e o : Expr} {scope : Scope} {Q : VK} {i i2 : Nat} {x y : Str} {py spos : Pos} {nx : L2.St → Hp → Prop} {rt : VK} {bk ct : L2.St → Hp → Prop}
/-- y = [elt for x in iter], the heap by an invariant -/
theorem s_lcI (C : Kx X P w K mg base N sc k lv)
    (h : wI X (.Name x p) iter σ H (SrcI fun n Gd Y H1 => ∀ D, H1 D = none → ∃ Pv : Nat → Hp → Prop, Pv 0 (upd H1 D (.lst [])) ∧ (∀ m H', m ≤ n → Pv m H' → Gd H') ∧
      (∀ m v H' H2, m < n → Pv m H' → Y m H' v H2 → ∀ X', Kx X' P w K mg base N (relS scope sc) k false → wE X' elt (σ.set i (some v)) H2 fun y H5 => ∃ acc, H5 D = some (.lst acc) ∧ acc.length < sizeLine ∧ Pv (m + 1) (upd H5 D (.lst (acc ++ [y])))) ∧ (∀ H', Pv n H' → nx (σ.set i2 (some (.ref D))) H')))
    (hN : N[i]? = some x := by rfl) (hN2 : N[i2]? = some y := by rfl) (hy : sc.names.lookup y = some .local := by rfl) (hl : (py.line == pos.line) = true := by rfl) (ha : (scope.names.any fun (n, k) => n == y && (k == .local || k == .cell)) = false := by decide +kernel) (hx : Sto (relS scope sc) false x := by first | exact Or.inl rfl | exact Or.inr ⟨rfl, rfl⟩) (ok : blkC N sc scope [(x, i)] = true := by decide +kernel) (hs : ∀ x, foldedSetIterable iter X.env x = pure x := by intro _; rfl) :
    wS X (.Assign [.Name y py] (.ListComp elt [⟨.Name x p, iter, [], 0⟩] scope pos) spos) nx rt bk ct σ H :=
  goS (lc_readsS C (Nat.zero_le _) (gName i) (pgN (X := X) hN hx) ok hN2 hy hl ha hs) (show tLc (wI X (.Name x p) iter) (gName i) (tUT P w K mg base N (relS scope sc) k []) (tU P w K mg base N (relS scope sc) k elt) [i] σ H (fun v H' => nx (σ.set i2 (some v)) H') from wI_mono (fun J H1 ⟨n, Gd, Y, wk, q⟩ D nD => by
    obtain ⟨Pv, h0, hG, hst, hd⟩ := q D nD
    refine lc_it wk Pv h0 hG (fun m v H' H2 hm hP hY => ?_) hd
    show wipe ((wipe σ [i]).set i (some v)) [i] = wipe σ [i] ∧ _
    rw [wipe1.1]
    refine ⟨wipe1.2, ?_⟩
    unfold tUT tYes
    dsimp only
    rw [if_pos rfl]
    exact fun X' C' => hst m v H' H2 hm hP hY X' C') h)
theorem z_R1 {R : Nat → (Hp → Prop) → (Nat → Hp → V → Hp → Prop) → Hp → Prop} (C : Kx X P w K mg base N sc k lv) (B : Bn mg) (h : wE X e σ H fun v H1 => ∃ j : Int, v = .int j ∧ (-(2 ^ 62) ≤ j ∧ j < 2 ^ 62) ∧ R j.toNat (fun _ => True) (YFn fun i => .int (0 + i)) H1)
    (hg : sc.names.lookup ("range" : Str) = some .globalImplicit := by rfl) (hs : starEach [e] X.env = [(false, eval e X.env)] := by rfl) : wI X tg (.Call (.Name "range" p) [e] [] pos) σ H (SrcI R) :=
  i_R1 C B.n_range (wE_mono (fun _ _ ⟨j, h1, h2, q⟩ => ⟨j, h1, h2, fun J wk => ⟨_, _, _, wk, q⟩⟩) h) hg hs
/-- over a list or a tuple -/
theorem x_X {B : List V → Hp → Prop} {a : Addr} {xs : List V} (C : Kx X P w K mg base N sc k lv) (he : ∀ Q : VK, Q (.ref a) H → wE X e σ H Q) (hq : SqX K H a xs) (h : B xs H) : wI X tg e σ H (SrcX B) := by
  rcases hq with hq | hq
  · exact x_L C (he _ ⟨a, xs, rfl, hq, h⟩)
  · exact x_T C (he _ ⟨a, xs, rfl, hq, h⟩)
/-- isinstance of one of two types -/
theorem kb_ll : kitB "list" "list" = some true := by decide +kernel
theorem kb_tl : kitB "tuple" "list" = some false := by decide +kernel
theorem any_lt1 {K : PySem.W.Frag} : PySem.W.kitAny K (.type "list") [.type "list", .type "tuple"] = some true := kitAny_cons (kit_ty kb_ll) (fun h => by cases h) (fun _ => rfl)
theorem any_lt2 {K : PySem.W.Frag} : PySem.W.kitAny K (.type "tuple") [.type "list", .type "tuple"] = some true := kitAny_cons (kit_ty kb_tl) (fun _ => kitAny_cons (kit_ty kb_tt) (fun h => by cases h) (fun _ => rfl)) (fun h => by cases h)
theorem isi_any (C : Kx X P w K mg base N sc k lv) {a tp : Addr} {t : Value} (ty : TyX K H (.ref a) t) (ha : PySem.W.kitAny K t [.type "list", .type "tuple"] = some true) (ht : H tp = some (.tup [.ty "list", .ty "tuple"])) (h : Q (.bl true) H) : wC X (.builtin "isinstance") [.ref a, .ref tp] H Q := by
  have e3 := C.eK; subst e3
  exact goC call_isiT ⟨_, _, _, t, [.type "list", .type "tuple"], true, rfl, ht, .cons (.ty _) (.cons (.ty _) .nil), ty, ha, h⟩
theorem isi_lt (C : Kx X P w K mg base N sc k lv) {a tp : Addr} {xs : List V} (hq : SqX K H a xs) (ht : H tp = some (.tup [.ty "list", .ty "tuple"])) (h : Q (.bl true) H) : wC X (.builtin "isinstance") [.ref a, .ref tp] H Q := by
  rcases hq with ((hq | ⟨o, hq⟩) | ⟨o, its, n, hl, hc, _⟩) | ((hq | ⟨o, hq⟩) | ⟨o, its, n, hl, hc, _⟩)
  · exact isi_any C (.base (.lst hq)) any_lt1 ht h
  · exact isi_any C (.base (.frz hq)) any_lt1 ht h
  · exact isi_any C (.kList hl hc) any_lt1 ht h
  · exact isi_any C (.base (.tup hq)) any_lt2 ht h
  · exact isi_any C (.fTuple hq) any_lt2 ht h
  · exact isi_any C (.kTuple hl hc) any_lt2 ht h
end
theorem SqX.ex {K : PySem.W.Frag} {H H' : Hp} {a : Addr} {xs : List V} (e : Ex H H') (h : SqX K H a xs) : SqX K H' a xs := h.elim (fun h => .inl (sql_ex e h)) fun h => .inr (sqt_ex e h)
theorem paired_of_get {α β : Type} {F : α → β → Prop} : ∀ {l : List α} {r : List β}, l.length = r.length → (∀ (i : Nat) (a : α) (b : β), l[i]? = some a → r[i]? = some b → F a b) → Paired F l r
  | [], [], _, _ => .nil
  | a :: l, b :: r, hl, h => .cons (h 0 a b rfl rfl) (paired_of_get (by simpa using hl) fun i x y hx hy => h (i + 1) x y hx hy)
  | [], _ :: _, hl, _ => by simp at hl
  | _ :: _, [], hl, _ => by simp at hl
theorem find_at {α : Type} {f : α → Bool} {l : List α} {n : Nat} {a : α} (ha : l[n]? = some a) (h0 : (l.take n).find? f = none) (hb : f a = true) : l.find? f = some a := by
  have e : l = l.take n ++ (a :: l.drop (n + 1)) := by
    obtain ⟨hl, hx⟩ := List.getElem?_eq_some_iff.mp ha
    rw [← hx, ← List.drop_eq_getElem_cons hl, List.take_append_drop]
  rw [e, List.find?_append, h0]
  simp [hb]
/-! ### comprehensions whose own names are cells -/
section
variable {X : Cx} {P : Program} {w : World} {K : PySem.W.Frag} {mg : Str → Option Value} {base : Heap} {N : List Str} {sc : Scope} {k : Nat} {lv : Bool}
variable {σ : L2.St} {H : Hp} {pos p : Pos} {tg elt iter c : Expr} {ifs : List Expr} {scope : Scope} {Q : VK} {own : List (Str × Nat)} {i j i2 : Nat} {x y z : Str} {α : Type} {py spos : Pos} {nx : L2.St → Hp → Prop} {rt : VK} {bk ct : L2.St → Hp → Prop}
def CellsOf (scope : Scope) (X' : Cx) : Prop := ∀ x, scope.names.lookup x = some .cell → X'.fn x = true
theorem cells_blk (s : Shared) (H : Hp) (Ca : Addr) (cl : List (Str × Addr)) (fp : List Addr) : CellsOf scope (X.blk s H scope (compEnvC scope cl Ca X.env) fp) := fun x hx => by
  show (scope.names.lookup x == some .cell) = true
  rw [hx]
  rfl
theorem lc_readsC (C : Kx X P w K mg base N sc k lv) (hi : ifs.length ≤ 1) (g : TG) (hg : ∀ X', Kx X' P w K mg base N (relS scope sc) k false → CellsOf scope X' → PG X' tg g) (ok : blkC N sc scope own = true) (hs : ∀ x, foldedSetIterable iter X.env x = pure x) :
    PE X (.ListComp elt [⟨tg, iter, ifs, 0⟩] scope pos) (tLc (wI X tg iter) g (tUT P w K mg base N (relS scope sc) k ifs) (tU P w K mg base N (relS scope sc) k elt) (own.map (·.2))) := by
  have okb := blkOk_by ok
  refine pe_lc C.calm C.ndX piW (by rw [C.eN, C.esc]; exact okb) (fun s H Ca cl fp => hg _ (C.blk okb.kind s H Ca cl fp) (cells_blk s H Ca cl fp)) (fun s H Ca cl fp => ?_) (fun s H Ca cl fp => ⟨fun pins s1 σ1 H1 Q I h => (h _ (C.blk okb.kind s H Ca cl fp)).run pins s1 I⟩) hs
  cases ifs with
  | nil => exact pts_nil
  | cons c r =>
    cases r with
    | nil => exact pts_one ⟨fun pins s1 σ1 H1 Q I h => (h _ (C.blk okb.kind s H Ca cl fp)).run pins s1 I⟩
    | cons d r => simp at hi
theorem lc_readsSC (C : Kx X P w K mg base N sc k lv) (hi : ifs.length ≤ 1) (g : TG) (hg : ∀ X', Kx X' P w K mg base N (relS scope sc) k false → CellsOf scope X' → PG X' tg g) (ok : blkC N sc scope own = true) (hN : N[i]? = some y) (hy : sc.names.lookup y = some .local)
    (hl : (py.line == pos.line) = true) (ha : (scope.names.any fun (n, k) => n == y && (k == .local || k == .cell)) = false) (hs : ∀ x, foldedSetIterable iter X.env x = pure x) :
    PS X (.Assign [.Name y py] (.ListComp elt [⟨tg, iter, ifs, 0⟩] scope pos) spos) (tAsg (tLc (wI X tg iter) g (tUT P w K mg base N (relS scope sc) k ifs) (tU P w K mg base N (relS scope sc) k elt) (own.map (·.2))) (gName i)) := by
  have okb := blkOk_by ok
  have hy' : X.env.scope.names.lookup y = some .local := by rw [C.esc]; exact hy
  refine ps_setLc C.calm C.ndX (C.at hN) hy' (sw_true (by rw [C.esc]; exact C.kind) hy' hl ha) piW (by rw [C.eN, C.esc]; exact okb) (fun s H Ca cl fp => hg _ (C.blk okb.kind s H Ca cl fp) (cells_blk s H Ca cl fp)) (fun s H Ca cl fp => ?_) (fun s H Ca cl fp => ⟨fun pins s1 σ1 H1 Q I h => (h _ (C.blk okb.kind s H Ca cl fp)).run pins s1 I⟩) hs
  cases ifs with
  | nil => exact pts_nil
  | cons c r =>
    cases r with
    | nil => exact pts_one ⟨fun pins s1 σ1 H1 Q I h => (h _ (C.blk okb.kind s H Ca cl fp)).run pins s1 I⟩
    | cons d r => simp at hi
def StoC (scope sc : Scope) (x : Str) : Prop := (relS scope sc).names.lookup x = some .local ∨ ((relS scope sc).names.lookup x = some .cell ∧ scope.names.lookup x = some .cell)
theorem pgC {pos : Pos} (hN : N[i]? = some x) (hx : StoC scope sc x) : ∀ X', Kx X' P w K mg base N (relS scope sc) k false → CellsOf scope X' → PG X' (.Name x pos) (gName i) := fun X' C hc => pg_name C.ndX (C.at hN) (C.loc (hx.elim .inl fun h => .inr h.1)) (hx.elim (fun h => .inr (by rw [C.esc]; exact h)) fun h => .inl (hc _ h.2))
theorem pgT2C {p1 p2 : Pos} {kk : Nat} (hN : N[i]? = some x) (hN2 : N[j]? = some y) (hx : StoC scope sc x) (hy : StoC scope sc y) :
    ∀ X', Kx X' P w K mg base N (relS scope sc) k false → CellsOf scope X' → PG X' (.Tuple [.Name x p1, .Name y p2] kk pos) (gTup K 2 (gCons (gName i) (gCons (gName j) gNil))) := fun X' C hc => by
  have e3 := C.eK; subst e3
  exact pg_tup C.calm (pgs_cons (pgC hN hx X' C hc) (pgs_cons (pgC hN2 hy X' C hc) pgs_nil))
/-- [elt for x, y in iter if c] -/
theorem e_lcF2C {p1 p2 : Pos} {kk : Nat} (C : Kx X P w K mg base N sc k lv) (f : α → Bool) (l : List α) (G : α → V → Hp → Prop) (st : ∀ z v H H', Tk H H' → G z v H → G z v H') (hl : l.length ≤ 1000000)
    (h : wI X (.Tuple [.Name x p1, .Name y p2] kk p) iter σ H (SrcQ K (LcFB2 P w K mg base N (relS scope sc) k elt c f (fun v1 v2 => (σ.set i (some v1)).set j (some v2)) l G Q)))
    (hN : N[i]? = some x := by rfl) (hN2 : N[j]? = some y := by rfl) (hij : i ≠ j := by decide) (hx : StoC scope sc x := by first | exact Or.inl rfl | exact Or.inr ⟨rfl, rfl⟩) (hy : StoC scope sc y := by first | exact Or.inl rfl | exact Or.inr ⟨rfl, rfl⟩) (ok : blkC N sc scope [(x, i), (y, j)] = true := by decide +kernel) (hs : ∀ x, foldedSetIterable iter X.env x = pure x := by intro _; rfl) :
    wE X (.ListComp elt [⟨.Tuple [.Name x p1, .Name y p2] kk p, iter, [c], 0⟩] scope pos) σ H Q :=
  goE (lc_readsC C (Nat.le_refl _) _ (pgT2C hN hN2 hx hy) ok hs) (lc_core2 C hij (Nat.le_refl _) (fAt l f) (wI_mono (fun J H1 q => by
    obtain ⟨vals, Gd, Y, wk, hG, hY, R, hp, hb, hd⟩ := q
    have hlen := Paired.length hp
    refine ⟨vals.length, Gd, Y, wk, by omega, hG, fun m y H => ∃ z, l[m]? = some z ∧ G z y H, fun m v H H' e ⟨z, h1, h2⟩ => ⟨z, h1, st _ _ _ _ e h2⟩, fun m v H' H2 hm hx hy => ?_, fun D ys H' nD hx hD hp' => hd D ys H' nD hx hD ?_⟩
    · obtain ⟨ex, a, v1, v2, e1, hq, hu⟩ := hY m v H' H2 hm hx hy
      obtain ⟨z, h1, h2⟩ := paired_ix' hp hu
      refine ⟨a, v1, v2, e1, hq, fun X' C' => wT_mono (fun b H4 q => ⟨Ex.trans ex q.1, ?_, fun hb X'' C'' => wE_mono (fun y H5 q => ⟨q.1, z, h1, q.2⟩) (q.2.2 ?_ X'' C'')⟩) (hb z v1 v2 (List.mem_of_getElem? h1) h2 _ (Ex.trans hx ex) X' C')⟩
      · rw [fAt_some h1]; exact q.2.1
      · rw [← q.2.1]; exact hb
    · rw [← hlen] at hp'
      exact paired_atF hp') h))
/-- y = [elt for x in iter if c] -/
theorem s_lcFC (C : Kx X P w K mg base N sc k lv) (f : α → Bool) (l : List α) (G : α → V → Hp → Prop) (st : ∀ z v H H', Tk H H' → G z v H → G z v H') (hl : l.length ≤ 1000000)
    (h : wI X (.Name x p) iter σ H (SrcX (LcFB P w K mg base N (relS scope sc) k elt c f (fun u => σ.set i (some u)) l G (fun v H' => nx (σ.set i2 (some v)) H'))))
    (hN : N[i]? = some x := by rfl) (hN2 : N[i2]? = some y := by rfl) (hy : sc.names.lookup y = some .local := by rfl) (hl' : (py.line == pos.line) = true := by rfl) (ha : (scope.names.any fun (n, k) => n == y && (k == .local || k == .cell)) = false := by decide +kernel) (hx : StoC scope sc x := by first | exact Or.inl rfl | exact Or.inr ⟨rfl, rfl⟩) (ok : blkC N sc scope [(x, i)] = true := by decide +kernel) (hs : ∀ x, foldedSetIterable iter X.env x = pure x := by intro _; rfl) :
    wS X (.Assign [.Name y py] (.ListComp elt [⟨.Name x p, iter, [c], 0⟩] scope pos) spos) nx rt bk ct σ H :=
  goS (lc_readsSC C (Nat.le_refl _) (gName i) (pgC hN hx) ok hN2 hy hl' ha hs) (show tLc _ _ _ _ _ _ _ _ from lc_core1 C (Nat.le_refl _) _ (wI_mono (fun J H1 q => srcF_of st hl q) h))
end
/-! ### several patterns -/
def has (ps : List Str) (ds : List Dt) (t : Str) : Bool := ds.any fun d => decide (wr ps d = t)
def HasT (ps : List Str) (ds : List Dt) (kvs : List (Key × V)) : Prop := ∀ t : Str, (valV kvs (Sum.inr t : Key)).isSome = has ps ds t
def DicV (H : Hp) (ds : List Dt) (ps : List Str) (v : V) : Prop := ∃ a kvs, v = .ref a ∧ H a = some (.dK kvs) ∧ HasT ps ds kvs
theorem DicV.ex {H H' : Hp} {ds : List Dt} {ps : List Str} {v : V} (e : Ex H H') (h : DicV H ds ps v) : DicV H' ds ps v := by
  obtain ⟨a, kvs, h1, h2, h3⟩ := h
  exact ⟨a, kvs, h1, e _ _ h2, h3⟩
def DicsV (H : Hp) (ds : List Dt) (pss : List (List Str)) (xs : List V) : Prop := Paired (DicV H ds) pss xs
theorem DicsV.ex {H H' : Hp} {ds : List Dt} {pss : List (List Str)} {xs : List V} (e : Ex H H') (h : DicsV H ds pss xs) : DicsV H' ds pss xs := Paired.mapP h fun _ _ q => q.ex e
theorem tbl_has' {K : PySem.W.Frag} {H : Hp} {ps : List Str} {ds : List Dt} {kvs : List (Key × V)} (h : TblV K H (tblF (wr ps) ds) kvs) : HasT ps ds kvs := fun t => by
  have h2 := (tGet_tbl (wr ps) t ds).2
  unfold has
  rw [← h2]
  rcases h.get (k := t) with ⟨h3, h4⟩ | ⟨es, l, xs, h3, h4, _⟩
  · rw [h3, h4]; rfl
  · rw [h3, h4]; rfl
def fits (pss : List (List Str)) (ds : List Dt) (ts : List Str) : List Nat := (List.range pss.length).filter fun i => ts.all (has (pss.getD i []) ds)
def telD (pss : List (List Str)) (ds : List Dt) (d : Dt) : Bool := (List.range pss.length).all fun i => !(((List.range pss.length).filter fun j => !decide (j = i)).any fun j => has (pss.getD j []) ds (wr (pss.getD i []) d))
def telOf (pss : List (List Str)) (ds : List Dt) : Option Dt := ds.find? (telD pss ds)
/-- a tuple of patterns -/
def PtsV (K : PySem.W.Frag) (H : Hp) (pss : List (List Str)) (v : V) : Prop := ∃ a xs, v = .ref a ∧ SqT K H a xs ∧ PatsV K H pss xs
theorem PtsV.tk {K : PySem.W.Frag} {H H' : Hp} {pss : List (List Str)} {v : V} (e : Tk H H') (h : PtsV K H pss v) : PtsV K H' pss v := by
  obtain ⟨a, xs, h1, h2, h3⟩ := h
  exact ⟨a, xs, h1, sqt_tk e h2, h3.tk e⟩
def okPs (pss : List (List Str)) : Prop := 1 ≤ pss.length ∧ pss.length ≤ 5 ∧ ∀ ps ∈ pss, small ps ∧ isPat ps = true
theorem pts_at {K : PySem.W.Frag} {H : Hp} {pss : List (List Str)} {xs : List V} {i : Nat} {v : V} (h : PatsV K H pss xs) (hv : xs[i]? = some v) : ∃ ps, pss[i]? = some ps ∧ pss.getD i [] = ps ∧ ps ∈ pss ∧ StrsV K H ps v := by
  obtain ⟨ps, h1, h2⟩ := paired_ix h hv
  exact ⟨ps, h1, by simp [List.getD, h1], List.mem_of_getElem? h1, h2⟩
theorem dics_at {H : Hp} {ds : List Dt} {pss : List (List Str)} {xs : List V} (h : DicsV H ds pss xs) : Paired (fun (i : Nat) (u : V × V) => u.1 = nI i ∧ DicV H ds (pss.getD i []) u.2) (List.range pss.length) (((List.range xs.length).map fun (n : Nat) => V.int (n : Int)).zip xs) := by
  have hl : pss.length = xs.length := Paired.length h
  apply paired_of_get
  · simp [hl]
  · intro i a b ha hb
    rw [List.getElem?_range (by
      have := (List.getElem?_eq_some_iff.mp ha).1
      simpa using this)] at ha
    cases ha
    rw [List.getElem?_zip_eq_some] at hb
    obtain ⟨h1, h2⟩ := hb
    rw [List.getElem?_map] at h1
    cases hr : (List.range xs.length)[i]? with
    | none => rw [hr] at h1; cases h1
    | some j =>
      rw [hr] at h1
      have hj : j = i := by
        rw [List.getElem?_range (by have := (List.getElem?_eq_some_iff.mp hr).1; simpa using this)] at hr
        exact (Option.some.inj hr).symm
      subst hj
      refine ⟨(Option.some.inj h1).symm, ?_⟩
      obtain ⟨ps, h3, h4⟩ := paired_ix h h2
      rw [List.getD, h3]
      exact h4
section
variable {K : PySem.W.Frag} {H : Hp} {Q : VK} {E : XK} {v u : V} {a b : Int} {pss : List (List Str)} {ts : List Str} {tb tt : Addr} {xs : List V} {ds : List Dt} {d : Dt}
def sp_need_patterns (K : PySem.W.Frag) : Sp := fun vs H Q _ => ∃ v pss, vs = [v] ∧ PtsV K H pss v ∧ okPs pss ∧ Ret .non H Q
theorem u_need_patterns (hp : PtsV K H pss v) (ho : okPs pss) (q : Ret .non H Q) : sp_need_patterns K [v] H Q E := ⟨v, pss, rfl, hp, ho, q⟩
def RetNs (l : List Nat) (H : Hp) (Q : VK) : Prop := ∀ p H', H p = none → Ex H H' → H' p = some (.lst (l.map nI)) → Q (.ref p) H'
def sp_fitting_of (K : PySem.W.Frag) : Sp := fun vs H Q _ => ∃ tb xs ds pss tt ts, vs = [.ref tb, .ref tt] ∧ H tb = some (.lst xs) ∧ DicsV H ds pss xs ∧ pss.length ≤ 1000 ∧ SqX K H tt (ts.map V.str) ∧ ts.length ≤ 1000 ∧ RetNs (fits pss ds ts) H Q
theorem u_fitting_of (h1 : H tb = some (.lst xs)) (h2 : DicsV H ds pss xs) (h3 : pss.length ≤ 1000) (h4 : SqX K H tt (ts.map V.str)) (h5 : ts.length ≤ 1000) (q : RetNs (fits pss ds ts) H Q) : sp_fitting_of K [.ref tb, .ref tt] H Q E := ⟨tb, xs, ds, pss, tt, ts, rfl, h1, h2, h3, h4, h5, q⟩
def sp_fitting (K : PySem.W.Frag) : Sp := fun vs H Q _ => ∃ v pss u a b tt ts, vs = [v, u, .ref tt] ∧ PtsV K H pss v ∧ okPs pss ∧ SpanV K H a b u ∧ isSp a b = true ∧ SqX K H tt (ts.map V.str) ∧ ts.length ≤ 1000 ∧ RetNs (fits pss (datesIn a b) ts) H Q
theorem u_fitting (hp : PtsV K H pss v) (ho : okPs pss) (hd : SpanV K H a b u) (h : isSp a b = true) (h4 : SqX K H tt (ts.map V.str)) (h5 : ts.length ≤ 1000) (q : RetNs (fits pss (datesIn a b) ts) H Q) : sp_fitting K [v, u, .ref tt] H Q E := ⟨v, pss, u, a, b, tt, ts, rfl, hp, ho, hd, h, h4, h5, q⟩
def sp_is_telling (K : PySem.W.Frag) : Sp := fun vs H Q _ => ∃ v pss tb xs ds u d, vs = [v, .ref tb, u] ∧ PtsV K H pss v ∧ okPs pss ∧ H tb = some (.lst xs) ∧ DicsV H ds pss xs ∧ DateV K H d u ∧ okD d ∧ Ret (.bl (telD pss ds d)) H Q
theorem u_is_telling (hp : PtsV K H pss v) (ho : okPs pss) (h1 : H tb = some (.lst xs)) (h2 : DicsV H ds pss xs) (hd : DateV K H d u) (h : okD d) (q : Ret (.bl (telD pss ds d)) H Q) : sp_is_telling K [v, .ref tb, u] H Q E := ⟨v, pss, tb, xs, ds, u, d, rfl, hp, ho, h1, h2, hd, h, q⟩
def sp_telling (K : PySem.W.Frag) : Sp := fun vs H Q _ => ∃ v pss u a b, vs = [v, u] ∧ PtsV K H pss v ∧ okPs pss ∧ SpanV K H a b u ∧ isSp a b = true ∧ ∀ r H', Ex H H' → OptD K H' (telOf pss (datesIn a b)) r → Q r H'
theorem u_telling (hp : PtsV K H pss v) (ho : okPs pss) (hd : SpanV K H a b u) (h : isSp a b = true) (q : ∀ r H', Ex H H' → OptD K H' (telOf pss (datesIn a b)) r → Q r H') : sp_telling K [v, u] H Q E := ⟨v, pss, u, a, b, rfl, hp, ho, hd, h, q⟩
end
/-- tables, made one by one -/
structure TabsI (H3 : Hp) (ds : List Dt) (pss : List (List Str)) (D : Addr) (m : Nat) (Hm : Hp) : Prop where
  ex : ∃ zs, Hm D = some (.lst zs) ∧ zs.length = m ∧ DicsV Hm ds (pss.take m) zs
  bt : Bt D H3 Hm
theorem TabsI.start {H3 : Hp} {ds : List Dt} {pss : List (List Str)} {D : Addr} (nD : H3 D = none) : TabsI H3 ds pss D 0 (upd H3 D (.lst [])) := ⟨⟨[], upd_same, rfl, .nil⟩, Bt.of (Ex.new nD)⟩
theorem TabsI.step {K : PySem.W.Frag} {H3 Hm H5 : Hp} {ds : List Dt} {pss : List (List Str)} {D dd : Addr} {m : Nat} {ps : List Str} {kvs : List (Key × V)} (h : TabsI H3 ds pss D m Hm) (hp : pss[m]? = some ps) (hm : m ≤ 1000) (nd : Hm dd = none) (x : Ex Hm H5) (hd : H5 dd = some (.dK kvs)) (ht : HasT ps ds kvs) :
    ∃ acc, H5 D = some (.lst acc) ∧ acc.length < sizeLine ∧ TabsI H3 ds pss D (m + 1) (upd H5 D (.lst (acc ++ [.ref dd]))) := by
  obtain ⟨⟨zs, h1, h2, h3⟩, hb⟩ := h
  have hne : dd ≠ D := fun z => by rw [z, h1] at nd; cases nd
  refine ⟨zs, x _ _ h1, sz5' (by omega), ⟨zs ++ [.ref dd], upd_same, by simp [h2], ?_⟩, (hb.trans (Bt.of x)).trans Bt.upd⟩
  rw [List.take_add_one, hp]
  refine paired_app (Paired.mapP h3 fun ps v ⟨a, kvs, q1, q2, q3⟩ => ⟨a, kvs, q1, ?_, q3⟩) (.cons ⟨dd, kvs, rfl, by rw [upd_ne hne]; exact hd, ht⟩ .nil)
  rw [upd_ne (fun z => by rw [z, h1] at q2; cases q2)]
  exact x _ _ q2
theorem TabsI.done {H3 Hm : Hp} {ds : List Dt} {pss : List (List Str)} {D : Addr} {m : Nat} (h : TabsI H3 ds pss D m Hm) (nD : H3 D = none) (hm : m = pss.length) : Ex H3 Hm ∧ ∃ zs, Hm D = some (.lst zs) ∧ DicsV Hm ds pss zs := by
  obtain ⟨⟨zs, h1, h2, h3⟩, hb⟩ := h
  subst hm
  rw [List.take_length] at h3
  exact ⟨fun a o ha => hb a o (fun z => by rw [z, nD] at ha; cases ha) ha, zs, h1, h3⟩
end DP
set_option Elab.async false
set_option linter.all false
set_option maxRecDepth 100000
set_option maxHeartbeats 1000000
namespace DP
open PySem L2
section
variable {X : Cx} {P : Program} {w : World} {K : PySem.W.Frag} {mg : Str → Option Value} {base : Heap} {N : List Str} {sc : Scope} {k : Nat} {lv : Bool}
variable {σ : L2.St} {H : Hp} {Q : VK} {pos p : Pos}
theorem v18 {x : Str} {r : List Str} {n0 n1 n2 n3 n4 n5 n6 n7 n8 n9 n10 n11 n12 n13 n14 n15 n16 n17 : Str} {o0 o1 o2 o3 o4 o5 o6 o7 o8 o9 o10 o11 o12 o13 o14 o15 o16 o17 : Option V} {t : L2.St} {v : V} (C : Kx X P w K mg base (n0 :: n1 :: n2 :: n3 :: n4 :: n5 :: n6 :: n7 :: n8 :: n9 :: n10 :: n11 :: n12 :: n13 :: n14 :: n15 :: n16 :: n17 :: x :: r) sc k lv) (h : Q v H) (hv : Vis sc x := by first | exact Or.inl rfl | exact Or.inr (Or.inl rfl) | exact Or.inr (Or.inr rfl)) (hd : (x == ("__debug__" : Str)) = false := by decide) (hcd : (x == ("__classdict__" : Str)) = false := by decide) : wE X (.Name x pos) (o0 :: o1 :: o2 :: o3 :: o4 :: o5 :: o6 :: o7 :: o8 :: o9 :: o10 :: o11 :: o12 :: o13 :: o14 :: o15 :: o16 :: o17 :: some v :: t) H Q := e_var (i := 18) C rfl rfl hv h hd hcd
theorem g18 {x : Str} {r : List Str} {n0 n1 n2 n3 n4 n5 n6 n7 n8 n9 n10 n11 n12 n13 n14 n15 n16 n17 : Str} {o0 o1 o2 o3 o4 o5 o6 o7 o8 o9 o10 o11 o12 o13 o14 o15 o16 o17 : Option V} {o : Option V} {t : L2.St} {v : V} {Q : L2.St → Hp → Prop} (C : Kx X P w K mg base (n0 :: n1 :: n2 :: n3 :: n4 :: n5 :: n6 :: n7 :: n8 :: n9 :: n10 :: n11 :: n12 :: n13 :: n14 :: n15 :: n16 :: n17 :: x :: r) sc k lv) (h : Q (o0 :: o1 :: o2 :: o3 :: o4 :: o5 :: o6 :: o7 :: o8 :: o9 :: o10 :: o11 :: o12 :: o13 :: o14 :: o15 :: o16 :: o17 :: some v :: t) H) (hx : Sto sc lv x := by first | exact Or.inl rfl | exact Or.inr ⟨rfl, rfl⟩) : wG X (.Name x pos) v (o0 :: o1 :: o2 :: o3 :: o4 :: o5 :: o6 :: o7 :: o8 :: o9 :: o10 :: o11 :: o12 :: o13 :: o14 :: o15 :: o16 :: o17 :: o :: t) H Q := g_name (i := 18) C rfl hx h
theorem v19 {x : Str} {r : List Str} {n0 n1 n2 n3 n4 n5 n6 n7 n8 n9 n10 n11 n12 n13 n14 n15 n16 n17 n18 : Str} {o0 o1 o2 o3 o4 o5 o6 o7 o8 o9 o10 o11 o12 o13 o14 o15 o16 o17 o18 : Option V} {t : L2.St} {v : V} (C : Kx X P w K mg base (n0 :: n1 :: n2 :: n3 :: n4 :: n5 :: n6 :: n7 :: n8 :: n9 :: n10 :: n11 :: n12 :: n13 :: n14 :: n15 :: n16 :: n17 :: n18 :: x :: r) sc k lv) (h : Q v H) (hv : Vis sc x := by first | exact Or.inl rfl | exact Or.inr (Or.inl rfl) | exact Or.inr (Or.inr rfl)) (hd : (x == ("__debug__" : Str)) = false := by decide) (hcd : (x == ("__classdict__" : Str)) = false := by decide) : wE X (.Name x pos) (o0 :: o1 :: o2 :: o3 :: o4 :: o5 :: o6 :: o7 :: o8 :: o9 :: o10 :: o11 :: o12 :: o13 :: o14 :: o15 :: o16 :: o17 :: o18 :: some v :: t) H Q := e_var (i := 19) C rfl rfl hv h hd hcd
theorem g19 {x : Str} {r : List Str} {n0 n1 n2 n3 n4 n5 n6 n7 n8 n9 n10 n11 n12 n13 n14 n15 n16 n17 n18 : Str} {o0 o1 o2 o3 o4 o5 o6 o7 o8 o9 o10 o11 o12 o13 o14 o15 o16 o17 o18 : Option V} {o : Option V} {t : L2.St} {v : V} {Q : L2.St → Hp → Prop} (C : Kx X P w K mg base (n0 :: n1 :: n2 :: n3 :: n4 :: n5 :: n6 :: n7 :: n8 :: n9 :: n10 :: n11 :: n12 :: n13 :: n14 :: n15 :: n16 :: n17 :: n18 :: x :: r) sc k lv) (h : Q (o0 :: o1 :: o2 :: o3 :: o4 :: o5 :: o6 :: o7 :: o8 :: o9 :: o10 :: o11 :: o12 :: o13 :: o14 :: o15 :: o16 :: o17 :: o18 :: some v :: t) H) (hx : Sto sc lv x := by first | exact Or.inl rfl | exact Or.inr ⟨rfl, rfl⟩) : wG X (.Name x pos) v (o0 :: o1 :: o2 :: o3 :: o4 :: o5 :: o6 :: o7 :: o8 :: o9 :: o10 :: o11 :: o12 :: o13 :: o14 :: o15 :: o16 :: o17 :: o18 :: o :: t) H Q := g_name (i := 19) C rfl hx h
theorem v20 {x : Str} {r : List Str} {n0 n1 n2 n3 n4 n5 n6 n7 n8 n9 n10 n11 n12 n13 n14 n15 n16 n17 n18 n19 : Str} {o0 o1 o2 o3 o4 o5 o6 o7 o8 o9 o10 o11 o12 o13 o14 o15 o16 o17 o18 o19 : Option V} {t : L2.St} {v : V} (C : Kx X P w K mg base (n0 :: n1 :: n2 :: n3 :: n4 :: n5 :: n6 :: n7 :: n8 :: n9 :: n10 :: n11 :: n12 :: n13 :: n14 :: n15 :: n16 :: n17 :: n18 :: n19 :: x :: r) sc k lv) (h : Q v H) (hv : Vis sc x := by first | exact Or.inl rfl | exact Or.inr (Or.inl rfl) | exact Or.inr (Or.inr rfl)) (hd : (x == ("__debug__" : Str)) = false := by decide) (hcd : (x == ("__classdict__" : Str)) = false := by decide) : wE X (.Name x pos) (o0 :: o1 :: o2 :: o3 :: o4 :: o5 :: o6 :: o7 :: o8 :: o9 :: o10 :: o11 :: o12 :: o13 :: o14 :: o15 :: o16 :: o17 :: o18 :: o19 :: some v :: t) H Q := e_var (i := 20) C rfl rfl hv h hd hcd
theorem g20 {x : Str} {r : List Str} {n0 n1 n2 n3 n4 n5 n6 n7 n8 n9 n10 n11 n12 n13 n14 n15 n16 n17 n18 n19 : Str} {o0 o1 o2 o3 o4 o5 o6 o7 o8 o9 o10 o11 o12 o13 o14 o15 o16 o17 o18 o19 : Option V} {o : Option V} {t : L2.St} {v : V} {Q : L2.St → Hp → Prop} (C : Kx X P w K mg base (n0 :: n1 :: n2 :: n3 :: n4 :: n5 :: n6 :: n7 :: n8 :: n9 :: n10 :: n11 :: n12 :: n13 :: n14 :: n15 :: n16 :: n17 :: n18 :: n19 :: x :: r) sc k lv) (h : Q (o0 :: o1 :: o2 :: o3 :: o4 :: o5 :: o6 :: o7 :: o8 :: o9 :: o10 :: o11 :: o12 :: o13 :: o14 :: o15 :: o16 :: o17 :: o18 :: o19 :: some v :: t) H) (hx : Sto sc lv x := by first | exact Or.inl rfl | exact Or.inr ⟨rfl, rfl⟩) : wG X (.Name x pos) v (o0 :: o1 :: o2 :: o3 :: o4 :: o5 :: o6 :: o7 :: o8 :: o9 :: o10 :: o11 :: o12 :: o13 :: o14 :: o15 :: o16 :: o17 :: o18 :: o19 :: o :: t) H Q := g_name (i := 20) C rfl hx h
theorem v21 {x : Str} {r : List Str} {n0 n1 n2 n3 n4 n5 n6 n7 n8 n9 n10 n11 n12 n13 n14 n15 n16 n17 n18 n19 n20 : Str} {o0 o1 o2 o3 o4 o5 o6 o7 o8 o9 o10 o11 o12 o13 o14 o15 o16 o17 o18 o19 o20 : Option V} {t : L2.St} {v : V} (C : Kx X P w K mg base (n0 :: n1 :: n2 :: n3 :: n4 :: n5 :: n6 :: n7 :: n8 :: n9 :: n10 :: n11 :: n12 :: n13 :: n14 :: n15 :: n16 :: n17 :: n18 :: n19 :: n20 :: x :: r) sc k lv) (h : Q v H) (hv : Vis sc x := by first | exact Or.inl rfl | exact Or.inr (Or.inl rfl) | exact Or.inr (Or.inr rfl)) (hd : (x == ("__debug__" : Str)) = false := by decide) (hcd : (x == ("__classdict__" : Str)) = false := by decide) : wE X (.Name x pos) (o0 :: o1 :: o2 :: o3 :: o4 :: o5 :: o6 :: o7 :: o8 :: o9 :: o10 :: o11 :: o12 :: o13 :: o14 :: o15 :: o16 :: o17 :: o18 :: o19 :: o20 :: some v :: t) H Q := e_var (i := 21) C rfl rfl hv h hd hcd
theorem g21 {x : Str} {r : List Str} {n0 n1 n2 n3 n4 n5 n6 n7 n8 n9 n10 n11 n12 n13 n14 n15 n16 n17 n18 n19 n20 : Str} {o0 o1 o2 o3 o4 o5 o6 o7 o8 o9 o10 o11 o12 o13 o14 o15 o16 o17 o18 o19 o20 : Option V} {o : Option V} {t : L2.St} {v : V} {Q : L2.St → Hp → Prop} (C : Kx X P w K mg base (n0 :: n1 :: n2 :: n3 :: n4 :: n5 :: n6 :: n7 :: n8 :: n9 :: n10 :: n11 :: n12 :: n13 :: n14 :: n15 :: n16 :: n17 :: n18 :: n19 :: n20 :: x :: r) sc k lv) (h : Q (o0 :: o1 :: o2 :: o3 :: o4 :: o5 :: o6 :: o7 :: o8 :: o9 :: o10 :: o11 :: o12 :: o13 :: o14 :: o15 :: o16 :: o17 :: o18 :: o19 :: o20 :: some v :: t) H) (hx : Sto sc lv x := by first | exact Or.inl rfl | exact Or.inr ⟨rfl, rfl⟩) : wG X (.Name x pos) v (o0 :: o1 :: o2 :: o3 :: o4 :: o5 :: o6 :: o7 :: o8 :: o9 :: o10 :: o11 :: o12 :: o13 :: o14 :: o15 :: o16 :: o17 :: o18 :: o19 :: o20 :: o :: t) H Q := g_name (i := 21) C rfl hx h
theorem v22 {x : Str} {r : List Str} {n0 n1 n2 n3 n4 n5 n6 n7 n8 n9 n10 n11 n12 n13 n14 n15 n16 n17 n18 n19 n20 n21 : Str} {o0 o1 o2 o3 o4 o5 o6 o7 o8 o9 o10 o11 o12 o13 o14 o15 o16 o17 o18 o19 o20 o21 : Option V} {t : L2.St} {v : V} (C : Kx X P w K mg base (n0 :: n1 :: n2 :: n3 :: n4 :: n5 :: n6 :: n7 :: n8 :: n9 :: n10 :: n11 :: n12 :: n13 :: n14 :: n15 :: n16 :: n17 :: n18 :: n19 :: n20 :: n21 :: x :: r) sc k lv) (h : Q v H) (hv : Vis sc x := by first | exact Or.inl rfl | exact Or.inr (Or.inl rfl) | exact Or.inr (Or.inr rfl)) (hd : (x == ("__debug__" : Str)) = false := by decide) (hcd : (x == ("__classdict__" : Str)) = false := by decide) : wE X (.Name x pos) (o0 :: o1 :: o2 :: o3 :: o4 :: o5 :: o6 :: o7 :: o8 :: o9 :: o10 :: o11 :: o12 :: o13 :: o14 :: o15 :: o16 :: o17 :: o18 :: o19 :: o20 :: o21 :: some v :: t) H Q := e_var (i := 22) C rfl rfl hv h hd hcd
theorem g22 {x : Str} {r : List Str} {n0 n1 n2 n3 n4 n5 n6 n7 n8 n9 n10 n11 n12 n13 n14 n15 n16 n17 n18 n19 n20 n21 : Str} {o0 o1 o2 o3 o4 o5 o6 o7 o8 o9 o10 o11 o12 o13 o14 o15 o16 o17 o18 o19 o20 o21 : Option V} {o : Option V} {t : L2.St} {v : V} {Q : L2.St → Hp → Prop} (C : Kx X P w K mg base (n0 :: n1 :: n2 :: n3 :: n4 :: n5 :: n6 :: n7 :: n8 :: n9 :: n10 :: n11 :: n12 :: n13 :: n14 :: n15 :: n16 :: n17 :: n18 :: n19 :: n20 :: n21 :: x :: r) sc k lv) (h : Q (o0 :: o1 :: o2 :: o3 :: o4 :: o5 :: o6 :: o7 :: o8 :: o9 :: o10 :: o11 :: o12 :: o13 :: o14 :: o15 :: o16 :: o17 :: o18 :: o19 :: o20 :: o21 :: some v :: t) H) (hx : Sto sc lv x := by first | exact Or.inl rfl | exact Or.inr ⟨rfl, rfl⟩) : wG X (.Name x pos) v (o0 :: o1 :: o2 :: o3 :: o4 :: o5 :: o6 :: o7 :: o8 :: o9 :: o10 :: o11 :: o12 :: o13 :: o14 :: o15 :: o16 :: o17 :: o18 :: o19 :: o20 :: o21 :: o :: t) H Q := g_name (i := 22) C rfl hx h
theorem v23 {x : Str} {r : List Str} {n0 n1 n2 n3 n4 n5 n6 n7 n8 n9 n10 n11 n12 n13 n14 n15 n16 n17 n18 n19 n20 n21 n22 : Str} {o0 o1 o2 o3 o4 o5 o6 o7 o8 o9 o10 o11 o12 o13 o14 o15 o16 o17 o18 o19 o20 o21 o22 : Option V} {t : L2.St} {v : V} (C : Kx X P w K mg base (n0 :: n1 :: n2 :: n3 :: n4 :: n5 :: n6 :: n7 :: n8 :: n9 :: n10 :: n11 :: n12 :: n13 :: n14 :: n15 :: n16 :: n17 :: n18 :: n19 :: n20 :: n21 :: n22 :: x :: r) sc k lv) (h : Q v H) (hv : Vis sc x := by first | exact Or.inl rfl | exact Or.inr (Or.inl rfl) | exact Or.inr (Or.inr rfl)) (hd : (x == ("__debug__" : Str)) = false := by decide) (hcd : (x == ("__classdict__" : Str)) = false := by decide) : wE X (.Name x pos) (o0 :: o1 :: o2 :: o3 :: o4 :: o5 :: o6 :: o7 :: o8 :: o9 :: o10 :: o11 :: o12 :: o13 :: o14 :: o15 :: o16 :: o17 :: o18 :: o19 :: o20 :: o21 :: o22 :: some v :: t) H Q := e_var (i := 23) C rfl rfl hv h hd hcd
theorem g23 {x : Str} {r : List Str} {n0 n1 n2 n3 n4 n5 n6 n7 n8 n9 n10 n11 n12 n13 n14 n15 n16 n17 n18 n19 n20 n21 n22 : Str} {o0 o1 o2 o3 o4 o5 o6 o7 o8 o9 o10 o11 o12 o13 o14 o15 o16 o17 o18 o19 o20 o21 o22 : Option V} {o : Option V} {t : L2.St} {v : V} {Q : L2.St → Hp → Prop} (C : Kx X P w K mg base (n0 :: n1 :: n2 :: n3 :: n4 :: n5 :: n6 :: n7 :: n8 :: n9 :: n10 :: n11 :: n12 :: n13 :: n14 :: n15 :: n16 :: n17 :: n18 :: n19 :: n20 :: n21 :: n22 :: x :: r) sc k lv) (h : Q (o0 :: o1 :: o2 :: o3 :: o4 :: o5 :: o6 :: o7 :: o8 :: o9 :: o10 :: o11 :: o12 :: o13 :: o14 :: o15 :: o16 :: o17 :: o18 :: o19 :: o20 :: o21 :: o22 :: some v :: t) H) (hx : Sto sc lv x := by first | exact Or.inl rfl | exact Or.inr ⟨rfl, rfl⟩) : wG X (.Name x pos) v (o0 :: o1 :: o2 :: o3 :: o4 :: o5 :: o6 :: o7 :: o8 :: o9 :: o10 :: o11 :: o12 :: o13 :: o14 :: o15 :: o16 :: o17 :: o18 :: o19 :: o20 :: o21 :: o22 :: o :: t) H Q := g_name (i := 23) C rfl hx h
theorem v24 {x : Str} {r : List Str} {n0 n1 n2 n3 n4 n5 n6 n7 n8 n9 n10 n11 n12 n13 n14 n15 n16 n17 n18 n19 n20 n21 n22 n23 : Str} {o0 o1 o2 o3 o4 o5 o6 o7 o8 o9 o10 o11 o12 o13 o14 o15 o16 o17 o18 o19 o20 o21 o22 o23 : Option V} {t : L2.St} {v : V} (C : Kx X P w K mg base (n0 :: n1 :: n2 :: n3 :: n4 :: n5 :: n6 :: n7 :: n8 :: n9 :: n10 :: n11 :: n12 :: n13 :: n14 :: n15 :: n16 :: n17 :: n18 :: n19 :: n20 :: n21 :: n22 :: n23 :: x :: r) sc k lv) (h : Q v H) (hv : Vis sc x := by first | exact Or.inl rfl | exact Or.inr (Or.inl rfl) | exact Or.inr (Or.inr rfl)) (hd : (x == ("__debug__" : Str)) = false := by decide) (hcd : (x == ("__classdict__" : Str)) = false := by decide) : wE X (.Name x pos) (o0 :: o1 :: o2 :: o3 :: o4 :: o5 :: o6 :: o7 :: o8 :: o9 :: o10 :: o11 :: o12 :: o13 :: o14 :: o15 :: o16 :: o17 :: o18 :: o19 :: o20 :: o21 :: o22 :: o23 :: some v :: t) H Q := e_var (i := 24) C rfl rfl hv h hd hcd
theorem g24 {x : Str} {r : List Str} {n0 n1 n2 n3 n4 n5 n6 n7 n8 n9 n10 n11 n12 n13 n14 n15 n16 n17 n18 n19 n20 n21 n22 n23 : Str} {o0 o1 o2 o3 o4 o5 o6 o7 o8 o9 o10 o11 o12 o13 o14 o15 o16 o17 o18 o19 o20 o21 o22 o23 : Option V} {o : Option V} {t : L2.St} {v : V} {Q : L2.St → Hp → Prop} (C : Kx X P w K mg base (n0 :: n1 :: n2 :: n3 :: n4 :: n5 :: n6 :: n7 :: n8 :: n9 :: n10 :: n11 :: n12 :: n13 :: n14 :: n15 :: n16 :: n17 :: n18 :: n19 :: n20 :: n21 :: n22 :: n23 :: x :: r) sc k lv) (h : Q (o0 :: o1 :: o2 :: o3 :: o4 :: o5 :: o6 :: o7 :: o8 :: o9 :: o10 :: o11 :: o12 :: o13 :: o14 :: o15 :: o16 :: o17 :: o18 :: o19 :: o20 :: o21 :: o22 :: o23 :: some v :: t) H) (hx : Sto sc lv x := by first | exact Or.inl rfl | exact Or.inr ⟨rfl, rfl⟩) : wG X (.Name x pos) v (o0 :: o1 :: o2 :: o3 :: o4 :: o5 :: o6 :: o7 :: o8 :: o9 :: o10 :: o11 :: o12 :: o13 :: o14 :: o15 :: o16 :: o17 :: o18 :: o19 :: o20 :: o21 :: o22 :: o23 :: o :: t) H Q := g_name (i := 24) C rfl hx h
end
theorem has_merge : ∀ (kvs acc : List (Key × V)) (t : Str), (valV (mergeK acc kvs) (Sum.inr t : Key)).isSome = ((valV acc (Sum.inr t : Key)).isSome || kvs.any fun kv => decide (kv.1 = Sum.inr t))
  | [], acc, t => by simp [mergeK]
  | kv :: r, acc, t => by
    have ih := has_merge r (putK acc kv.1 kv.2) t
    have e : mergeK acc (kv :: r) = mergeK (putK acc kv.1 kv.2) r := rfl
    rw [e, ih, valV_put, List.any_cons]
    by_cases h : (Sum.inr t : Key) = kv.1
    · rw [if_pos h]
      simp [h]
    · rw [if_neg h]
      have : ¬ kv.1 = Sum.inr t := fun z => h z.symm
      simp [this]
theorem paired_drop {α β : Type} {F : α → β → Prop} : ∀ {l : List α} {r : List β} (n : Nat), Paired F l r → Paired F (l.drop n) (r.drop n)
  | _, _, 0, h => h
  | _, _, n + 1, .nil => .nil
  | _, _, n + 1, .cons _ h => paired_drop n h
theorem paired_take {α β : Type} {F : α → β → Prop} : ∀ {l : List α} {r : List β} (n : Nat), Paired F l r → Paired F (l.take n) (r.take n)
  | _, _, 0, _ => .nil
  | _, _, n + 1, .nil => .nil
  | _, _, n + 1, .cons a h => .cons a (paired_take n h)
theorem cutV_nat (xs : List V) (a b : Nat) (h : a ≤ b) : cutV xs (some (a : Int)) (some (b : Int)) = (xs.drop a).take (b - a) := by
  unfold cutV
  rw [HT.sIx_nat, HT.sIx_nat]
  by_cases ha : a ≤ xs.length
  · rw [Nat.min_eq_left ha]
    by_cases hb : b ≤ xs.length
    · rw [Nat.min_eq_left hb]
    · rw [Nat.min_eq_right (by omega)]
      rw [List.take_of_length_le (by simp), List.take_of_length_le (by simp; omega)]
  · rw [Nat.min_eq_right (by omega), Nat.min_eq_right (by omega), List.drop_eq_nil_of_le (by omega), List.drop_eq_nil_of_le (by omega)]
    simp
/-- tuples of texts as data -/
def sD (ps : List Str) : PyData := .tuple (ps.map PyData.str)
theorem dp_strs {K : PySem.W.Frag} {H : Hp} {ps : List Str} {a : Addr} (h : SqT K H a (ps.map V.str)) : Dp K H (.ref a) (sD ps) := .tup h (dpA_strs ps)
theorem clean_sD (a : List Str) : clean (sD a) = true := cleanA_map (f := PyData.str) fun _ => rfl
theorem eqv_sD (a b : List Str) : PyData.eqv (sD a) (sD b) = decide (a = b) := eqv_dec (clean_sD a) (clean_sD b) ⟨fun h => by
  unfold sD at h
  injection h with h
  exact map_inj (fun {a b} h => by injection h) h, fun e => by rw [e]⟩
theorem pairs_true {α : Type} {K : PySem.W.Frag} {H : Hp} {f : α → Str} : ∀ {l : List α} {ys : List V}, Paired (fun r v => ∃ p, v = V.ref p ∧ SqT K H p [.str (f r), .bl true]) l ys →
    ∃ (pa : List Addr) (kvs : List (Key × V)), ys = pa.map V.ref ∧ Paired (fun p (kv : Key × V) => SqT K H p [kV kv.1, kv.2]) pa kvs ∧ Paired (fun r (kv : Key × V) => kv.1 = Sum.inr (f r)) l kvs
  | _, _, .nil => ⟨[], [], rfl, .nil, .nil⟩
  | _, _, .cons (a := r) ⟨p, h1, h2⟩ hr => by
    obtain ⟨pa, kvs, e, h4, h5⟩ := pairs_true hr
    exact ⟨p :: pa, (Sum.inr (f r), .bl true) :: kvs, by rw [h1, e]; rfl, .cons h2 h4, .cons rfl h5⟩
theorem any_keys {α : Type} {f : α → Str} (t : Str) : ∀ {l : List α} {kvs : List (Key × V)}, Paired (fun r (kv : Key × V) => kv.1 = Sum.inr (f r)) l kvs → (kvs.any fun kv => decide (kv.1 = Sum.inr t)) = l.any fun r => decide (f r = t)
  | _, _, .nil => rfl
  | _, _, .cons h hr => by
    rw [List.any_cons, List.any_cons, any_keys t hr, h]
    congr 1
    simp
theorem rows_of {K : PySem.W.Frag} {H : Hp} {rs : List (Dt × Int)} {xs : List V} (h : RowsV K H rs xs) : ∀ {zs : List V}, (∀ z ∈ zs, z ∈ xs) → ∃ qs, RowsV K H qs zs ∧ ∀ r ∈ qs, r ∈ rs
  | [], _ => ⟨[], .nil, by simp⟩
  | z :: zs, hz => by
    obtain ⟨qs, h1, h2⟩ := rows_of h (zs := zs) fun y hy => hz y (by simp [hy])
    obtain ⟨i, hi⟩ := List.getElem?_of_mem (hz z (by simp))
    obtain ⟨r, h3, h4⟩ := paired_ix h hi
    exact ⟨r :: qs, .cons h4 h1, fun y hy => by
      rcases List.mem_cons.mp hy with rfl | hy
      · exact List.mem_of_getElem? h3
      · exact h2 y hy⟩
theorem find_next {α : Type} {f : α → Bool} {l : List α} {n : Nat} {a : α} (ha : l[n]? = some a) : (l.take (n + 1)).find? f = ((l.take n).find? f).or (if f a = true then some a else none) := by
  rw [List.take_add_one, ha, List.find?_append]
  congr 1
  cases h : f a <;> simp [h]
/-! ### books -/
theorem DicsV.bt {H H' : Hp} {t : Addr} {ys : List V} {ds : List Dt} {pss : List (List Str)} {xs : List V} (b : Bt t H H') (ht : H t = some (.lst ys)) (h : DicsV H ds pss xs) : DicsV H' ds pss xs := Paired.mapP h fun _ _ ⟨a, kvs, h1, h2, h3⟩ => ⟨a, kvs, h1, b _ _ (fun z => by rw [z, ht] at h2; cases h2) h2, h3⟩
def clear (pss : List (List Str)) (ds : List Dt) (ts : List Str) : Bool := (List.range ts.length).all fun i => !(((List.range pss.length).filter fun j => !decide (j = i)).any fun j => has (pss.getD j []) ds (ts.getD i ""))
theorem clear_tel (pss : List (List Str)) (ds : List Dt) (d : Dt) : clear pss ds (pss.map fun ps => wr ps d) = telD pss ds d := by
  unfold clear telD
  rw [List.length_map]
  have key : ∀ (l : List Nat), (∀ i ∈ l, i < pss.length) → (l.all fun i => !(((List.range pss.length).filter fun j => !decide (j = i)).any fun j => has (pss.getD j []) ds ((pss.map fun ps => wr ps d).getD i ""))) = l.all fun i => !(((List.range pss.length).filter fun j => !decide (j = i)).any fun j => has (pss.getD j []) ds (wr (pss.getD i []) d)) := by
    intro l
    induction l with
    | nil => intro _; rfl
    | cons i l ih =>
      intro h
      have hi := h i (by simp)
      rw [List.all_cons, List.all_cons, ih fun z hz => h z (by simp [hz])]
      have : (pss.map fun ps => wr ps d).getD i "" = wr (pss.getD i []) d := by
        rw [List.getD, List.getD, List.getElem?_map, List.getElem?_eq_getElem hi]
        rfl
      rw [this]
  exact key _ fun i hi => List.mem_range.mp hi
section
variable {K : PySem.W.Frag} {H : Hp} {Q : VK} {E : XK} {pss : List (List Str)} {ts : List Str} {tb tt : Addr} {xs : List V} {ds : List Dt}
def sp_clear (K : PySem.W.Frag) : Sp := fun vs H Q _ => ∃ tb xs ds pss tt ts, vs = [.ref tb, .ref tt] ∧ H tb = some (.lst xs) ∧ DicsV H ds pss xs ∧ pss.length ≤ 1000 ∧ H tt = some (.lst (ts.map V.str)) ∧ Ret (.bl (clear pss ds ts)) H Q
theorem u_clear (h1 : H tb = some (.lst xs)) (h2 : DicsV H ds pss xs) (h3 : pss.length ≤ 1000) (h4 : H tt = some (.lst (ts.map V.str))) (q : Ret (.bl (clear pss ds ts)) H Q) : sp_clear K [.ref tb, .ref tt] H Q E := ⟨tb, xs, ds, pss, tt, ts, rfl, h1, h2, h3, h4, q⟩
end
theorem dics_ix {H : Hp} {ds : List Dt} {pss : List (List Str)} {xs : List V} {j : Nat} (h : DicsV H ds pss xs) (hj : j < pss.length) : ∃ a kvs, atI xs ((j : Nat) : Int) = some (.ref a) ∧ H a = some (.dK kvs) ∧ HasT (pss.getD j []) ds kvs := by
  obtain ⟨ps, h1⟩ : ∃ ps, pss[j]? = some ps := ⟨_, List.getElem?_eq_getElem hj⟩
  obtain ⟨v, h2, a, kvs, rfl, h3, h4⟩ := paired_get h j ps h1
  refine ⟨a, kvs, atI_nat h2, h3, ?_⟩
  rw [List.getD, h1]
  exact h4
/-- all but two objects stay -/
def Bt2 (t D : Addr) (H H' : Hp) : Prop := ∀ a o, a ≠ t → a ≠ D → H a = some o → H' a = some o
theorem Bt2.tk {t D : Addr} {H H' : Hp} {ys : List V} (b : Bt2 t D H H') (ht : H t = some (.lst ys)) (nD : H D = none) : Tk H H' := ⟨fun a xs e => b a _ (fun z => by rw [z, ht] at e; cases e) (fun z => by rw [z, nD] at e; cases e) e, fun a o u e => b a _ (fun z => by rw [z, ht] at e; cases e) (fun z => by rw [z, nD] at e; cases e) e⟩
theorem Bt2.bt {t D : Addr} {H H' : Hp} (b : Bt2 t D H H') (nD : H D = none) : Bt t H H' := fun a o ha e => b a o ha (fun z => by rw [z, nD] at e; cases e) e
end DP
set_option Elab.async false
set_option linter.all false
set_option maxRecDepth 100000
set_option maxHeartbeats 1000000
namespace DP
open PySem L2
/-! ### an own class: fields, methods, making -/
/-- the class Reader as the top has made it -/
structure RdC (K : PySem.W.Frag) (mg : Str → Option Value) (Cl : Addr) : Prop where
  cl : Cls K Cl
  nT : NoAttr K Cl "tables"
  nX : NoAttr K Cl "texts"
  mgC : mg "Reader" = some (.ref Cl)
structure CalM (P : Program) (w : World) (K : PySem.W.Frag) (mg : Str → Option Value) (base : Heap) (Cl : Addr) (k : Nat) (m : Str) (sp : Sp) : Prop where
  ex : ∃ (f : Addr) (fd : FuncData) (ps : List Str), FnOk P w K mg base CX0 k f fd ps sp ∧ Meth K Cl m f ∧ Binds K fd ps []
structure CalI (P : Program) (w : World) (K : PySem.W.Frag) (mg : Str → Option Value) (base : Heap) (Cl : Addr) (k : Nat) (sp : Sp) : Prop where
  ex : ∃ (f : Addr) (fd : FuncData) (ps : List Str), FnOk P w K mg base CX0 k f fd ps sp ∧ Mk K Cl f ∧ Binds K fd ps []
section
variable {X : Cx} {P : Program} {w : World} {K : PySem.W.Frag} {mg : Str → Option Value} {base : Heap} {N : List Str} {sc : Scope} {k : Nat} {lv : Bool}
variable {σ : L2.St} {H : Hp} {Q : VK} {pos p apos pos' : Pos} {e o value : Expr} {es : List Expr} {Cl : Addr} {f m : Str} {j : Nat} {sp : Sp} {nx : L2.St → Hp → Prop} {rt : VK} {bk ct : L2.St → Hp → Prop}
theorem fn_of {x qual : Str} {st : Stmt} {f : Addr} {fd : FuncData} {ps : List Str} (N : List Str) (F : Fun K x qual st f fd) (S : FnScope N ps (defScope st)) (len : ∀ vs H Q E, sp vs H Q E → vs.length = ps.length)
    (hbody : ∀ (X : Cx) (H : Hp) (vs : List V) (Q : VK) (E : XK), Kx X P w K mg base N (defScope st) k true → sp vs H Q E →
      wSs X (defBody st) (fun _ H' => Q .non H') Q (fun _ _ => False) (fun _ _ => False) (start N vs) H) : FnOk P w K mg base CX0 (k + 1) f fd ps sp := by
  refine F.ok S len fun cdv A outer s H vs Q E hr hsp => ⟨_, pssW, ?_⟩
  exact hbody _ H vs Q E ⟨rfl, rfl, rfl, rfl, rfl, rfl, rfl, S.nd, S.kind, rfl, hr, PassesOwn.never, fun _ _ => rfl⟩ hsp
theorem meth_of {x qual : Str} {st : Stmt} {f : Addr} {fd : FuncData} {ps : List Str} (N : List Str) (F : Fun K x qual st f fd) (mt : Meth K Cl x f) (b : Binds K fd ps []) (S : FnScope N ps (defScope st)) (len : ∀ vs H Q E, sp vs H Q E → vs.length = ps.length)
    (hbody : ∀ (X : Cx) (H : Hp) (vs : List V) (Q : VK) (E : XK), Kx X P w K mg base N (defScope st) k true → sp vs H Q E →
      wSs X (defBody st) (fun _ H' => Q .non H') Q (fun _ _ => False) (fun _ _ => False) (start N vs) H) : CalM P w K mg base Cl (k + 1) x sp := ⟨f, fd, ps, fn_of N F S len hbody, mt, b⟩
/-- e.f -/
theorem e_fld (C : Kx X P w K mg base N sc k lv) (c : Cls K Cl) (n : NoAttr K Cl f) (h : wE X e σ H fun x H1 => ∃ a dx fs v, x = .ref a ∧ H1 a = some (.ins Cl dx fs) ∧ fs.lookup f = some v ∧ Q v H1) (hb : attributeBase e f X.env (eval e X.env) = eval e X.env := by rfl) : wE X (.Attribute e f pos) σ H Q := by
  have e3 := C.eK; subst e3
  exact goE (pe_fld peW hb) (show wE X e σ H fun x H1 => ∃ a C dx fs v, x = .ref a ∧ H1 a = some (.ins C dx fs) ∧ Cls X.K C ∧ NoAttr X.K C f ∧ fs.lookup f = some v ∧ Q v H1 from wE_mono (fun x H1 ⟨a, dx, fs, v, h1, h2, h3, h4⟩ => ⟨a, Cl, dx, fs, v, h1, h2, c, n, h3, h4⟩) h)
/-- e.f = value -/
theorem s_fld (C : Kx X P w K mg base N sc k lv) (c : Cls K Cl) (n : NoAttr K Cl f) (h : wE X value σ H fun y H1 => wE X o σ H1 fun x H2 => ∃ a dx fs, x = .ref a ∧ H2 a = some (.ins Cl dx fs) ∧ fs.length < 1000 ∧ nx σ (upd H2 a (.ins Cl dx (putF f y fs)))) (hs : swapsWith value (some (.Attribute o f pos')) pos.line X.env = pure false := by rfl) : wS X (.Assign [.Attribute o f pos'] value pos) nx rt bk ct σ H := by
  have e3 := C.eK; subst e3
  exact goS (ps_fld peW peW hs) (show wE X value σ H fun y H1 => wE X o σ H1 fun x H2 => ∃ a C dx fs, x = .ref a ∧ H2 a = some (.ins C dx fs) ∧ Cls X.K C ∧ NoAttr X.K C f ∧ fs.length < 1000 ∧ nx σ (upd H2 a (.ins C dx (putF f y fs))) from
    wE_mono (fun y H1 q => wE_mono (fun x H2 ⟨a, dx, fs, h1, h2, h3, h4⟩ => ⟨a, Cl, dx, fs, h1, h2, c, n, h3, h4⟩) q) h)
/-- o.m(e, ..) -/
theorem e_meth {pl : Sem Bool} (C : Kx X P w K mg base N sc k lv) (c : Cls K Cl) (M : CalM P w K mg base Cl j m sp) (h : wE X o σ H fun x H1 => ∃ a dx fs, x = .ref a ∧ H1 a = some (.ins Cl dx fs) ∧ fs.lookup m = none ∧ wA X (e :: es) σ H1 fun vs H2 => sp (x :: vs) H2 Q E0) (hk : j ≤ k := by decide)
    (hst : starEach (e :: es) X.env = (false, eval e X.env) :: starEach es X.env := by rfl) (hpl : (backTo pos (starEach es X.env)).any (·.1) = false := by rfl)
    (ht : eval (.Call (.Attribute o m apos) (e :: es) [] pos) X.env = (do
      let ov ← eval o X.env
      standAt apos.atName
      let (f, first) ← holding [ov] (getMethod ov m pl)
      callWith pos f first (backTo pos (starEach (e :: es) X.env)) (backToKw pos (keywordEach [] X.env))) := by rfl) :
    wE X (.Call (.Attribute o m apos) (e :: es) [] pos) σ H Q := by
  obtain ⟨f, fd, ps, F, hm, hb⟩ := M.ex
  have e1 := C.eprog; have e2 := C.ew; have e3 := C.eK; have e4 := C.emg; have e5 := C.ebase
  subst e1 e2 e3 e4 e5
  refine goE (pe_meth (pl := pl) (dvs := []) (E := E0) peW c hm F (C.room.mono hk) hb .nil pass0 paW hst hpl ht) ?_
  show wE X o σ H fun x H1 => ∃ a dx fs, x = .ref a ∧ H1 a = some (.ins Cl dx fs) ∧ fs.lookup m = none ∧ wA X (e :: es) σ H1 fun vs H2 => sp (x :: (vs ++ [])) H2 Q E0
  simpa only [List.append_nil] using h
/-- o.m() -/
theorem e_meth0 {pl : Sem Bool} (C : Kx X P w K mg base N sc k lv) (c : Cls K Cl) (M : CalM P w K mg base Cl j m sp) (h : wE X o σ H fun x H1 => ∃ a dx fs, x = .ref a ∧ H1 a = some (.ins Cl dx fs) ∧ fs.lookup m = none ∧ sp [x] H1 Q E0) (hk : j ≤ k := by decide)
    (ht : eval (.Call (.Attribute o m apos) [] [] pos) X.env = (do
      let ov ← eval o X.env
      standAt apos.atName
      let (f, first) ← holding [ov] (getMethod ov m pl)
      callWith pos f first (backTo pos (starEach [] X.env)) (backToKw pos (keywordEach [] X.env))) := by rfl) :
    wE X (.Call (.Attribute o m apos) [] [] pos) σ H Q := by
  obtain ⟨f, fd, ps, F, hm, hb⟩ := M.ex
  have e1 := C.eprog; have e2 := C.ew; have e3 := C.eK; have e4 := C.emg; have e5 := C.ebase
  subst e1 e2 e3 e4 e5
  exact goE (pe_meth0 (pl := pl) (dvs := []) (E := E0) peW c hm F (C.room.mono hk) hb .nil pass0 ht) h
/-- C(e, ..) -/
theorem e_make {x : Str} (C : Kx X P w K mg base N sc k lv) (hm : mg x = some (.ref Cl)) (M : CalI P w K mg base Cl j sp) (h : wA X (e :: es) σ H fun vs H1 => ∀ x dx, H1 x = none → H1 dx = none → dx ≠ x → sp (.ref x :: vs) (upd (upd H1 dx (.own x)) x (.ins Cl dx [])) (fun v H2 => v = .non ∧ Q (.ref x) H2) E0) (hk : j + 1 ≤ k := by decide) (hg : sc.names.lookup x = some .globalImplicit := by rfl) (hdb : (x == ("__debug__" : Str)) = false := by decide)
    (he : starEach (e :: es) X.env = (false, eval e X.env) :: starEach es X.env := by rfl) (hpl : (backTo pos (starEach es X.env)).any (·.1) = false := by rfl) : wE X (.Call (.Name x p) (e :: es) [] pos) σ H Q := by
  obtain ⟨f, fd, ps, F, hM, hb⟩ := M.ex
  have e1 := C.eprog; have e2 := C.ew; have e3 := C.eK; have e4 := C.emg; have e5 := C.ebase
  subst e1 e2 e3 e4 e5
  refine goE (pe_make (dvs := []) (E := E0) hM F (C.room.mono hk) (C.gl hg) hm hb .nil pass0 paW hdb he hpl) ?_
  show wA X (e :: es) σ H fun vs H1 => ∀ x dx, H1 x = none → H1 dx = none → dx ≠ x → sp (.ref x :: (vs ++ [])) (upd (upd H1 dx (.own x)) x (.ins Cl dx [])) (fun v H2 => v = .non ∧ Q (.ref x) H2) E0
  simpa only [List.append_nil] using h
end
end DP
set_option Elab.async false
set_option linter.all false
set_option maxRecDepth 100000
set_option maxHeartbeats 1000000
namespace DP
open PySem L2
section
variable {X : Cx} {P : Program} {w : World} {K : PySem.W.Frag} {mg : Str → Option Value} {base : Heap} {N : List Str} {sc : Scope} {k : Nat} {lv : Bool}
variable {H : Hp} {Q : VK} {a : Addr} {xs : List V}
/-- max of a list of alike data -/
theorem c_maxD (C : Kx X P w K mg base N sc k lv) {d : PyData} {ds : List PyData} (hq : SqL K H a xs) (hA : DpAll K H xs (d :: ds)) (al : PySem.W.AlikeAll (d :: ds)) (hd : PyData.depthAll (d :: ds) ≤ 60)
    (h : ∀ (i : Nat) v, xs[i]? = some v → (d :: ds)[i]? = some (PySem.W.maxD d ds) → Q v H) : wC X (.builtin "max") [.ref a] H Q := by
  have e3 := C.eK; subst e3
  refine ⟨fun pins s σ us I rv => ?_⟩
  obtain ⟨its, r, pl, hz⟩ := I.list hq
  rw [Vals.ref1 rv]
  obtain ⟨as, ra⟩ := Dp.readsAll I (d :: ds) xs its hA r
  refine PySem.W.max_list_data (I.ok.hd C.calm) pl.isList (by simpa using ra) al (by have := C.room.un; omega) fun i v h' tk bs hi rr hk => ?_
  have hlen := r.length
  have hil : i < xs.length := by
    have := (Array.getElem?_eq_some_iff.mp hi).1
    rw [List.size_toArray] at this
    omega
  obtain ⟨u, ew, ru⟩ := r.get (List.getElem?_eq_getElem hil)
  have eu : u = v := by
    have h2 : its[i]? = some v := by simpa using hi
    rw [ew] at h2
    exact Option.some.inj h2
  subst eu
  refine ⟨xs[i], H, I.kept hk, ru, h i _ (List.getElem?_eq_getElem hil) ?_⟩
  obtain ⟨e, h1, h2⟩ := dpA_get hA (List.getElem?_eq_getElem hil)
  obtain ⟨as2, r2⟩ := Dp.reads I e _ _ h2 ru
  have := (PyProof.Rows.reads_det (fun b o e _ => hk b o e) r2 rr).1
  rw [this]
  exact h1
end
theorem maxD_ge (x : PyData) (xs : List PyData) : PySem.W.maxD x xs ∈ x :: xs ∧ ∀ y ∈ x :: xs, PySem.W.dataLt (PySem.W.maxD x xs) y = false := by
  unfold PySem.W.maxD
  induction xs using snoc_ind with
  | h0 => exact ⟨List.mem_singleton.mpr rfl, fun y hy => by rw [List.mem_singleton.mp hy]; exact PyProof.Rows.lex_irrefl _⟩
  | h1 l a ih =>
    rw [List.foldl_append]
    show (if PySem.W.dataLt (List.foldl _ x l) a = true then a else List.foldl _ x l) ∈ x :: (l ++ [a]) ∧ ∀ y ∈ x :: (l ++ [a]), PySem.W.dataLt (if PySem.W.dataLt (List.foldl _ x l) a = true then a else List.foldl _ x l) y = false
    by_cases h : PySem.W.dataLt (List.foldl (fun a y => if PySem.W.dataLt a y = true then y else a) x l) a = true
    · rw [if_pos h]
      refine ⟨by simp, fun y hy => ?_⟩
      rw [← List.cons_append, List.mem_append] at hy
      rcases hy with hy | hy
      · cases e : PySem.W.dataLt a y with
        | false => rfl
        | true =>
          have := dl_trans h e
          rw [ih.2 y hy] at this
          cases this
      · rw [List.mem_singleton.mp hy]
        exact PyProof.Rows.lex_irrefl _
    · rw [if_neg h]
      refine ⟨?_, fun y hy => ?_⟩
      · have := ih.1
        rcases List.mem_cons.mp this with h1 | h1
        · rw [h1]; simp
        · simp [h1]
      · rw [← List.cons_append, List.mem_append] at hy
        rcases hy with hy | hy
        · exact ih.2 y hy
        · rw [List.mem_singleton.mp hy]
          exact Bool.eq_false_iff.mpr h
/-- the least is the greatest: all are one -/
theorem min_max {d : Dt} {ds : List Dt} {m n : Dt} (hm : PySem.W.minD (dD d) (ds.map dD) = dD m) (hn : PySem.W.maxD (dD d) (ds.map dD) = dD n) : decide (m = n) = ds.all fun e => decide (e = d) := by
  have h1 := minD_spec (dD d) (ds.map dD)
  have h2 := maxD_ge (dD d) (ds.map dD)
  rw [hm] at h1
  rw [hn] at h2
  have lo : ∀ e ∈ d :: ds, ¬ dlt e m := fun e he => by
    have := h1.2 (dD e) (by rw [← List.map_cons]; exact List.mem_map.mpr ⟨e, he, rfl⟩)
    rw [dataLt_dD] at this
    exact of_decide_eq_false this
  have hi : ∀ e ∈ d :: ds, ¬ dlt n e := fun e he => by
    have := h2.2 (dD e) (by rw [← List.map_cons]; exact List.mem_map.mpr ⟨e, he, rfl⟩)
    rw [dataLt_dD] at this
    exact of_decide_eq_false this
  have mm : m ∈ d :: ds := by
    have := h1.1
    rw [← List.map_cons] at this
    obtain ⟨z, hz, e⟩ := List.mem_map.mp this
    rw [← dD_inj e]; exact hz
  have mn : n ∈ d :: ds := by
    have := h2.1
    rw [← List.map_cons] at this
    obtain ⟨z, hz, e⟩ := List.mem_map.mp this
    rw [← dD_inj e]; exact hz
  have tri : ∀ a b : Dt, ¬ dlt a b → ¬ dlt b a → a = b := fun a b h h' => by
    obtain ⟨a1, a2, a3⟩ := a
    obtain ⟨b1, b2, b3⟩ := b
    unfold dlt at h h'
    dsimp only at h h'
    have e1 : a1 = b1 := by omega
    subst e1
    have e2 : a2 = b2 := by omega
    subst e2
    have e3 : a3 = b3 := by omega
    rw [e3]
  rw [Bool.eq_iff_iff, decide_eq_true_eq, List.all_eq_true]
  constructor
  · rintro rfl e he
    have h3 := tri e m (lo e (by simp [he])) (hi e (by simp [he]))
    have h4 := tri d m (lo d (by simp)) (hi d (by simp))
    rw [h3, h4]
    exact decide_eq_true rfl
  · intro h
    have all : ∀ e ∈ d :: ds, e = d := fun e he => by
      rcases List.mem_cons.mp he with rfl | he
      · rfl
      · exact of_decide_eq_true (h e he)
    rw [all m mm, all n mn]
theorem alike_dDs (ds : List Dt) : PySem.W.AlikeAll (ds.map dD) := ⟨fun x hx y hy => by
  obtain ⟨p, _, rfl⟩ := List.mem_map.mp hx
  obtain ⟨q, _, rfl⟩ := List.mem_map.mp hy
  exact alike_dD p q, fun x hx => by
  obtain ⟨p, _, rfl⟩ := List.mem_map.mp hx
  intro e
  cases e⟩
/-! ### readers -/
def TabL (K : PySem.W.Frag) (H : Hp) (ds : List Dt) (L : List Addr) (ps : List Str) (v : V) : Prop := ∃ d kvs, v = .ref d ∧ H d = some (.dK kvs) ∧ TblV K H (tblF (wr ps) ds) kvs ∧ ∀ l, V.ref l ∈ kvs.map (·.2) → l ∈ L
theorem TabL.ex {K : PySem.W.Frag} {H H' : Hp} {ds : List Dt} {L : List Addr} {ps : List Str} {v : V} (e : Ex H H') (h : TabL K H ds L ps v) : TabL K H' ds L ps v := by
  obtain ⟨d, kvs, h1, h2, h3, h4⟩ := h
  exact ⟨d, kvs, h1, e _ _ h2, h3.ex e, h4⟩
theorem TabL.mono {K : PySem.W.Frag} {H : Hp} {ds : List Dt} {L L' : List Addr} {ps : List Str} {v : V} (e : ∀ l ∈ L, l ∈ L') (h : TabL K H ds L ps v) : TabL K H ds L' ps v := by
  obtain ⟨d, kvs, h1, h2, h3, h4⟩ := h
  exact ⟨d, kvs, h1, h2, h3, fun l hl => e l (h4 l hl)⟩
theorem ent_mem {K : PySem.W.Frag} {H : Hp} : ∀ {t : Tb} {kvs : List (Key × V)}, TblV K H t kvs → ∀ {Hn : Hp}, Tk H Hn → (∀ l xs, V.ref l ∈ kvs.map (·.2) → H l = some (.lst xs) → Hn l = some (.lst xs)) → TblV K Hn t kvs
  | _, _, .nil, _, _, _ => .nil
  | _, _, .cons ⟨h1, l, xs, h2, h3, h4⟩ hr, _, tk, hl => .cons ⟨h1, l, xs, h2, hl l xs (by simp [h2]) h3, h4.tk tk⟩ (ent_mem hr tk fun l xs hm => hl l xs (by simp [hm]))
theorem TabL.bt {K : PySem.W.Frag} {H H' : Hp} {ds : List Dt} {L : List Addr} {ps : List Str} {v : V} {t : Addr} {ys : List V} (b : Bt t H H') (ht : H t = some (.lst ys)) (hL : t ∉ L) (h : TabL K H ds L ps v) : TabL K H' ds L ps v := by
  obtain ⟨d, kvs, h1, h2, h3, h4⟩ := h
  exact ⟨d, kvs, h1, b _ _ (fun z => by rw [z, ht] at h2; cases h2) h2, ent_mem h3 (Tk.bt b ht) fun l xs hm hx => b _ _ (fun z => hL (z ▸ h4 l hm)) hx, h4⟩
theorem TabL.dic {K : PySem.W.Frag} {H : Hp} {ds : List Dt} {L : List Addr} {ps : List Str} {v : V} (h : TabL K H ds L ps v) : DicV H ds ps v := by
  obtain ⟨d, kvs, h1, h2, h3, _⟩ := h
  exact ⟨d, kvs, h1, h2, tbl_has' h3⟩
structure RdrV (K : PySem.W.Frag) (H : Hp) (Cl : Addr) (ds : List Dt) (pss : List (List Str)) (a tx : Addr) (L : List Addr) (ts : List Str) : Prop where
  ex : ∃ dx tb xs, H a = some (.ins Cl dx [("tables", .ref tb), ("texts", .ref tx)]) ∧ H tb = some (.lst xs) ∧ tb ∈ L ∧ Paired (TabL K H ds L) pss xs
  txs : H tx = some (.lst (ts.map V.str))
  nin : tx ∉ L
  live : ∀ l ∈ L, ∃ zs, H l = some (.lst zs)
section
variable {K : PySem.W.Frag} {H H' : Hp} {Cl : Addr} {ds : List Dt} {pss : List (List Str)} {a tx t : Addr} {L : List Addr} {ts : List Str} {ys : List V}
theorem RdrV.keep (e : Ex H H') (h : RdrV K H Cl ds pss a tx L ts) : RdrV K H' Cl ds pss a tx L ts := by
  obtain ⟨⟨dx, tb, xs, h1, h2, h3, h4⟩, h5, h6, h7⟩ := h
  exact ⟨⟨dx, tb, xs, e _ _ h1, e _ _ h2, h3, Paired.mapP h4 fun _ _ q => q.ex e⟩, e _ _ h5, h6, fun l hl => by obtain ⟨zs, hz⟩ := h7 l hl; exact ⟨zs, e _ _ hz⟩⟩
theorem RdrV.bt (b : Bt t H H') (ht : H t = some (.lst ys)) (hL : t ∉ L) (hx : t ≠ tx) (h : RdrV K H Cl ds pss a tx L ts) : RdrV K H' Cl ds pss a tx L ts := by
  obtain ⟨⟨dx, tb, xs, h1, h2, h3, h4⟩, h5, h6, h7⟩ := h
  exact ⟨⟨dx, tb, xs, b _ _ (fun z => by rw [z, ht] at h1; cases h1) h1, b _ _ (fun z => hL (z ▸ h3)) h2, h3, Paired.mapP h4 fun _ _ q => q.bt b ht hL⟩, b _ _ (Ne.symm hx) h5, h6, fun l hl => by obtain ⟨zs, hz⟩ := h7 l hl; exact ⟨zs, b _ _ (fun z => hL (z ▸ hl)) hz⟩⟩
theorem RdrV.feed {s : Str} (h : RdrV K H Cl ds pss a tx L ts) : RdrV K (upd H tx (.lst (ts.map V.str ++ [.str s]))) Cl ds pss a tx L (ts ++ [s]) := by
  obtain ⟨⟨dx, tb, xs, h1, h2, h3, h4⟩, h5, h6, h7⟩ := h
  have b : Bt tx H (upd H tx (.lst (ts.map V.str ++ [.str s]))) := Bt.upd
  exact ⟨⟨dx, tb, xs, b _ _ (fun z => by rw [z, h5] at h1; cases h1) h1, b _ _ (fun z => h6 (z ▸ h3)) h2, h3, Paired.mapP h4 fun _ _ q => q.bt b h5 h6⟩, by rw [upd_same, List.map_append]; rfl, h6, fun l hl => by obtain ⟨zs, hz⟩ := h7 l hl; exact ⟨zs, b _ _ (fun z => h6 (z ▸ hl)) hz⟩⟩
def foundOf (pss : List (List Str)) (ds : List Dt) (is : List Nat) (t : Str) : List Dt := is.flatMap fun i => ds.filter fun d => decide (wr (pss.getD i []) d = t)
def onlyL : List Dt → Option Dt
  | [] => none
  | d :: r => if (r.all fun e => decide (e = d)) = true then some d else none
def onlyOf (pss : List (List Str)) (ds : List Dt) (ts : List Str) (t : Str) : Option Dt := onlyL (foundOf pss ds (fits pss ds ts) t)
variable {Q : VK} {E : XK} {v u : V} {y0 y1 : Int} {s : Str} {dx : Addr}
def sp_init (K : PySem.W.Frag) (Cl : Addr) : Sp := fun vs H Q _ => ∃ x dx v pss u a b, vs = [.ref x, v, u] ∧ H x = some (.ins Cl dx []) ∧ PtsV K H pss v ∧ okPs pss ∧ SpanV K H a b u ∧ isSp a b = true ∧ ∀ H' tx L, Bt x H H' → RdrV K H' Cl (datesIn a b) pss x tx L [] → H tx = none → (∀ l ∈ L, H l = none) → Q .non H'
theorem u_init {x : Addr} (h0 : H x = some (.ins Cl dx [])) (hp : PtsV K H pss v) (ho : okPs pss) (hd : SpanV K H y0 y1 u) (h : isSp y0 y1 = true) (q : ∀ H' tx L, Bt x H H' → RdrV K H' Cl (datesIn y0 y1) pss x tx L [] → H tx = none → (∀ l ∈ L, H l = none) → Q .non H') : sp_init K Cl [.ref x, v, u] H Q E := ⟨x, dx, v, pss, u, y0, y1, rfl, h0, hp, ho, hd, h, q⟩
def sp_candidates (K : PySem.W.Frag) (Cl : Addr) : Sp := fun vs H Q _ => ∃ a ds pss tx L ts, vs = [.ref a] ∧ RdrV K H Cl ds pss a tx L ts ∧ pss.length ≤ 1000 ∧ ts.length ≤ 1000 ∧ RetNs (fits pss ds ts) H Q
theorem u_candidates (h : RdrV K H Cl ds pss a tx L ts) (h1 : pss.length ≤ 1000) (h2 : ts.length ≤ 1000) (q : RetNs (fits pss ds ts) H Q) : sp_candidates K Cl [.ref a] H Q E := ⟨a, ds, pss, tx, L, ts, rfl, h, h1, h2, q⟩
def sp_feed (K : PySem.W.Frag) (Cl : Addr) : Sp := fun vs H Q _ => ∃ a ds pss tx L ts s, vs = [.ref a, .str s] ∧ RdrV K H Cl ds pss a tx L ts ∧ pss.length ≤ 1000 ∧ ts.length ≤ 900 ∧ ∀ p H', H p = none → Bt tx H H' → RdrV K H' Cl ds pss a tx L (ts ++ [s]) → H' p = some (.lst ((fits pss ds (ts ++ [s])).map nI)) → Q (.ref p) H'
theorem u_feed (h : RdrV K H Cl ds pss a tx L ts) (h1 : pss.length ≤ 1000) (h2 : ts.length ≤ 900) (q : ∀ p H', H p = none → Bt tx H H' → RdrV K H' Cl ds pss a tx L (ts ++ [s]) → H' p = some (.lst ((fits pss ds (ts ++ [s])).map nI)) → Q (.ref p) H') : sp_feed K Cl [.ref a, .str s] H Q E := ⟨a, ds, pss, tx, L, ts, s, rfl, h, h1, h2, q⟩
def sp_only (K : PySem.W.Frag) (Cl : Addr) : Sp := fun vs H Q _ => ∃ a ds pss tx L ts s, vs = [.ref a, .str s] ∧ RdrV K H Cl ds pss a tx L ts ∧ pss.length ≤ 100 ∧ ts.length ≤ 1000 ∧ ds.length ≤ 4464 ∧ ∀ r H', Ex H H' → OptD K H' (onlyOf pss ds ts s) r → Q r H'
theorem u_only (h : RdrV K H Cl ds pss a tx L ts) (h1 : pss.length ≤ 100) (h2 : ts.length ≤ 1000) (h3 : ds.length ≤ 4464) (q : ∀ r H', Ex H H' → OptD K H' (onlyOf pss ds ts s) r → Q r H') : sp_only K Cl [.ref a, .str s] H Q E := ⟨a, ds, pss, tx, L, ts, s, rfl, h, h1, h2, h3, q⟩
end
/-- tables with all their dates, made one by one -/
structure TabsJ (K : PySem.W.Frag) (H3 : Hp) (ds : List Dt) (pss : List (List Str)) (D : Addr) (m : Nat) (Hm : Hp) : Prop where
  ex : ∃ zs L, Hm D = some (.lst zs) ∧ zs.length = m ∧ Paired (TabL K Hm ds L) (pss.take m) zs ∧ D ∉ L ∧ (∀ l ∈ L, H3 l = none) ∧ ∀ l ∈ L, ∃ ws, Hm l = some (.lst ws)
  bt : Bt D H3 Hm
section
variable {K : PySem.W.Frag} {H3 Hm H5 : Hp} {ds : List Dt} {pss : List (List Str)} {D dd : Addr} {m : Nat} {ps : List Str} {kvs : List (Key × V)}
theorem TabsJ.start (nD : H3 D = none) : TabsJ K H3 ds pss D 0 (upd H3 D (.lst [])) := ⟨⟨[], [], upd_same, rfl, .nil, by simp, by simp, by simp⟩, Bt.of (Ex.new nD)⟩
def refs (kvs : List (Key × V)) : List Addr := kvs.filterMap fun kv => match kv.2 with | .ref l => some l | _ => none
theorem refs_mem {l : Addr} (h : V.ref l ∈ kvs.map (·.2)) : l ∈ refs kvs := by
  obtain ⟨kv, h1, h2⟩ := List.mem_map.mp h
  exact List.mem_filterMap.mpr ⟨kv, h1, by rw [h2]⟩
theorem mem_refs {l : Addr} (h : l ∈ refs kvs) : V.ref l ∈ kvs.map (·.2) := by
  obtain ⟨kv, h1, h2⟩ := List.mem_filterMap.mp h
  refine List.mem_map.mpr ⟨kv, h1, ?_⟩
  split at h2
  · rename_i l' e
    cases h2
    exact e
  · cases h2
theorem tbl_live : ∀ {t : Tb} {kvs : List (Key × V)} {H : Hp}, TblV K H t kvs → ∀ l, V.ref l ∈ kvs.map (·.2) → ∃ ws, H l = some (.lst ws)
  | _, _, _, .nil, l, h => by simp at h
  | _, _, _, .cons ⟨_, l0, xs, h2, h3, _⟩ hr, l, h => by
    rw [List.map_cons, List.mem_cons] at h
    rcases h with h | h
    · rw [h2] at h
      cases h
      exact ⟨xs, h3⟩
    · exact tbl_live hr l h
theorem TabsJ.step (h : TabsJ K H3 ds pss D m Hm) (nD : H3 D = none) (hp : pss[m]? = some ps) (hm : m ≤ 1000) (nd : Hm dd = none) (x : Ex Hm H5) (hd : H5 dd = some (.dK kvs)) (ht : TblV K H5 (tblF (wr ps) ds) kvs) (hf : TbFr Hm kvs) :
    ∃ acc, H5 D = some (.lst acc) ∧ acc.length < sizeLine ∧ TabsJ K H3 ds pss D (m + 1) (upd H5 D (.lst (acc ++ [.ref dd]))) := by
  obtain ⟨⟨zs, L, h1, h2, h3, h4, h5, h6⟩, hb⟩ := h
  have hne : dd ≠ D := fun z => by rw [z, h1] at nd; cases nd
  have hD5 := x _ _ h1
  have b : Bt D H5 (upd H5 D (.lst (zs ++ [.ref dd]))) := Bt.upd
  have hDk : D ∉ refs kvs := fun z => by
    have := hf.2 D (mem_refs z)
    rw [h1] at this
    cases this
  have hDL : D ∉ L ++ refs kvs := fun z => (List.mem_append.mp z).elim h4 hDk
  refine ⟨zs, hD5, sz5' (by omega), ⟨zs ++ [.ref dd], L ++ refs kvs, upd_same, by simp [h2], ?_, hDL, fun l hl => ?_, fun l hl => ?_⟩, (hb.trans (Bt.of x)).trans Bt.upd⟩
  · rw [List.take_add_one, hp]
    refine paired_app (Paired.mapP h3 fun ps v q => ((q.ex x).mono fun l hl => List.mem_append_left _ hl).bt b hD5 hDL) (.cons ?_ .nil)
    exact TabL.bt b hD5 hDL ⟨dd, kvs, rfl, hd, ht, fun l hl => List.mem_append_right _ (refs_mem hl)⟩
  · rcases List.mem_append.mp hl with hl | hl
    · exact h5 l hl
    · have hz := hf.2 l (mem_refs hl)
      cases e : H3 l with
      | none => rfl
      | some o =>
        have hlD : l ≠ D := fun z => hDk (z ▸ hl)
        rw [hb _ _ hlD e] at hz
        cases hz
  · have hlD : l ≠ D := fun z => hDL (z ▸ hl)
    rw [upd_ne hlD]
    rcases List.mem_append.mp hl with hl | hl
    · obtain ⟨ws, hw⟩ := h6 l hl
      exact ⟨ws, x _ _ hw⟩
    · exact tbl_live ht l (mem_refs hl)
theorem TabsJ.done (h : TabsJ K H3 ds pss D m Hm) (nD : H3 D = none) (hm : m = pss.length) : Ex H3 Hm ∧ ∃ zs L, Hm D = some (.lst zs) ∧ Paired (TabL K Hm ds L) pss zs ∧ D ∉ L ∧ (∀ l ∈ L, H3 l = none) ∧ ∀ l ∈ L, ∃ ws, Hm l = some (.lst ws) := by
  obtain ⟨⟨zs, L, h1, h2, h3, h4, h5, h6⟩, hb⟩ := h
  subst hm
  rw [List.take_length] at h3
  exact ⟨fun a o ha => hb a o (fun z => by rw [z, nD] at ha; cases ha) ha, zs, L, h1, h3, h4, h5, h6⟩
end
end DP
set_option Elab.async false
set_option linter.all false
set_option maxRecDepth 100000
set_option maxHeartbeats 1000000
namespace DP
open PySem L2
section
variable {X : Cx} {P : Program} {w : World} {K : PySem.W.Frag} {mg : Str → Option Value} {base : Heap} {N : List Str} {sc : Scope} {k : Nat} {lv : Bool}
variable {σ : L2.St} {H : Hp} {Q : VK} {o e : Expr} {apos cpos pos p : Pos} {v u : V} {d1 d2 : Dt}
/-- l.pop(e) -/
theorem e_popAt (h : wE X o σ H fun x H1 => ∃ a xs, x = .ref a ∧ H1 a = some (.lst xs) ∧ wE X e σ H1 fun v H2 => ∃ ys, ∃ n : Nat, ∃ y, v = .int ((n : Nat) : Int) ∧ H2 a = some (.lst ys) ∧ ys[n]? = some y ∧ ys.length ≤ 1000000 ∧ Q y (upd H2 a (.lst (ys.eraseIdx n))))
    (hbase : attributeBase o "pop" X.env (eval o X.env) = eval o X.env := by rfl)
    (hfew : ((backTo cpos (starEach [e] X.env)).all (fun x => !x.1) && (backToKw cpos (keywordEach [] X.env)).all (fun x => x.1.isSome)
      && decide ([e].length + ([] : List Keyword).length + (if ([] : List Keyword).isEmpty then 0 else 1) < 30)) = true := by rfl)
    (hline : (apos.endLine == cpos.line) = true := by rfl) (hs : starEach [e] X.env = (false, eval e X.env) :: starEach [] X.env := by rfl) (hplain : (backTo cpos (starEach [] X.env)).any (·.1) = false := by rfl) :
    wE X (.Call (.Attribute o "pop" apos) [e] [] cpos) σ H Q :=
  e_bm PySem.F.plainAttrs_list PySem.F.slot_list_pop PySem.F.type_list_pop (wE_mono (fun x H1 ⟨a, xs, e1, hH, q⟩ => by
    subst e1
    refine ⟨ty_lst hH, a_cons (wE_mono (fun v H2 ⟨ys, n, y, e2, hy, hn, hl, q⟩ => a_nil ?_) q) hs⟩
    subst e2
    have hlt := (List.getElem?_eq_some_iff.mp hn).1
    exact goM mt_popAt ⟨a, ys, (n : Int), n, y, rfl, rfl, hy, by omega, by omega, by unfold seqIndex?; simp; omega, hn, q⟩) h) hbase hfew hline hs hplain
theorem o_ltDt (C : Kx X P w K mg base N sc k lv) (hd : DateV K H d1 v) (he : DateV K H d2 u) (h : Q (.bl (decide (dlt d1 d2))) H) : wOp X (compareOp .Lt) v u H Q := by
  have e3 := C.eK; subst e3
  refine ⟨fun pins s σ v' u' I rx ry => ?_⟩
  obtain ⟨as, ra⟩ := Dp.reads I (dD d1) _ _ (dp_date hd) rx
  obtain ⟨bs, rb⟩ := Dp.reads I (dD d2) _ _ (dp_date he) ry
  exact PySem.W.lt_data ra rb (alike_dD d1 d2) (fun z => by cases z) (by have := C.room.un; have := dep_dD d1; have := Nat.min_le_left (dD d1).depth (dD d2).depth; omega) ⟨.bl _, H, I, rfl, by rw [dataLt_dD]; exact h⟩
/-- enumerate of a tuple, in a comprehension -/
theorem y_ET {B : List (V × V) → Hp → Prop} {elts : List Expr} {kk : Nat} {tpos : Pos} (C : Kx X P w K mg base N sc k lv) (Bb : Bn mg) (h : wE X e σ H fun v H1 => ∃ a xs, v = .ref a ∧ SqT K H1 a xs ∧ B (((List.range xs.length).map fun (n : Nat) => V.int (n : Int)).zip xs) H1)
    (hg : sc.names.lookup ("enumerate" : Str) = some .globalImplicit := by rfl) (hs : starEach [e] X.env = [(false, eval e X.env)] := by rfl) : wI X (.Tuple elts kk tpos) (.Call (.Name "enumerate" p) [e] [] pos) σ H (SrcQ K B) :=
  i_EnT C Bb (wE_mono (fun v H1 ⟨a, xs, h1, h2, q⟩ => ⟨a, xs, h1, h2, fun J wk => by
    have hl : (((List.range xs.length).map fun (n : Nat) => V.int (n : Int)).zip xs).length = xs.length := by simp
    refine ⟨_, fun H => SqT K H a xs, _, by rw [hl]; exact wk, fun H' x => sqt_ex x h2, fun m v H' H2 hm hx hY => ?_, q⟩
    obtain ⟨T, x, y, rfl, nT, rfl, e1, e2⟩ := hY
    have e2 : xs[m]? = some y := e2
    refine ⟨Ex.new nT, T, x, y, rfl, SqT.of upd_same, ?_⟩
    rw [List.getElem?_zip_eq_some]
    refine ⟨?_, e2⟩
    rw [List.getElem?_map, List.getElem?_range (by rw [hl] at hm; exact hm)]
    exact e1⟩) h) hg hs
end
theorem pats_of {K : PySem.W.Frag} {H : Hp} {L : List (List Str)} {xs : List V} (h : PatsV K H L xs) : ∀ {zs : List V}, (∀ z ∈ zs, z ∈ xs) → ∃ qs, PatsV K H qs zs ∧ ∀ r ∈ qs, r ∈ L
  | [], _ => ⟨[], .nil, by simp⟩
  | z :: zs, hz => by
    obtain ⟨qs, h1, h2⟩ := pats_of h (zs := zs) fun y hy => hz y (by simp [hy])
    obtain ⟨i, hi⟩ := List.getElem?_of_mem (hz z (by simp))
    obtain ⟨r, h3, h4⟩ := paired_ix h hi
    exact ⟨r :: qs, .cons h4 h1, fun y hy => by
      rcases List.mem_cons.mp hy with rfl | hy
      · exact List.mem_of_getElem? h3
      · exact h2 y hy⟩
theorem dates_of {K : PySem.W.Frag} {H : Hp} {L : List Dt} {xs : List V} (h : DatesV K H L xs) : ∀ {zs : List V}, (∀ z ∈ zs, z ∈ xs) → ∃ qs, DatesV K H qs zs ∧ ∀ r ∈ qs, r ∈ L
  | [], _ => ⟨[], .nil, by simp⟩
  | z :: zs, hz => by
    obtain ⟨qs, h1, h2⟩ := dates_of h (zs := zs) fun y hy => hz y (by simp [hy])
    obtain ⟨i, hi⟩ := List.getElem?_of_mem (hz z (by simp))
    obtain ⟨r, h3, h4⟩ := paired_ix h hi
    exact ⟨r :: qs, .cons h4 h1, fun y hy => by
      rcases List.mem_cons.mp hy with rfl | hy
      · exact List.mem_of_getElem? h3
      · exact h2 y hy⟩
theorem law0_ofN {K : PySem.W.Frag} {H H0 : Hp} {a t : Addr} {ns : List Int} (h : Fz K H a (ns.map V.int)) (hl : ns.length ≤ 63) (x : Ex H H0) (ht : H0 t = some (.lst [.int 0, .int 0])) : Law0 K H0 a t ns := ⟨h.tk (Tk.of x), hl, 0, 0, ht, Int.le_refl _⟩
theorem law0_upd {K : PySem.W.Frag} {H : Hp} {a t kd : Addr} {ns : List Int} {xs ys : List V} (h : Law0 K H a t ns) (hk : H kd = some (.lst xs)) (hne : kd ≠ t) : Law0 K (upd H kd (.lst ys)) a t ns := ⟨h.fz.tk (Tk.lst hk), h.len, by
  obtain ⟨p, r, hr, hp⟩ := h.town
  exact ⟨p, r, by rw [upd_ne hne.symm]; exact hr, hp⟩⟩
theorem pats_ext {K : PySem.W.Frag} {H : Hp} {kd : Addr} {pss qss : List (List Str)} {xs ys : List V} (hk : H kd = some (.lst xs)) (h1 : PatsV K H pss xs) (h2 : PatsV K H qss ys) : PatsV K (upd H kd (.lst (xs ++ ys))) (pss ++ qss) (xs ++ ys) := PatsV.tk (Tk.lst hk) (paired_app h1 h2)
/-- all but three objects stay -/
def Bt3 (t D kd : Addr) (H H' : Hp) : Prop := ∀ a o, a ≠ t → a ≠ D → a ≠ kd → H a = some o → H' a = some o
theorem Bt3.tk {t D kd : Addr} {H H' : Hp} {ys ks : List V} (b : Bt3 t D kd H H') (ht : H t = some (.lst ys)) (hk : H kd = some (.lst ks)) (nD : H D = none) : Tk H H' := ⟨fun a xs e => b a _ (fun z => by rw [z, ht] at e; cases e) (fun z => by rw [z, nD] at e; cases e) (fun z => by rw [z, hk] at e; cases e) e, fun a o u e => b a _ (fun z => by rw [z, ht] at e; cases e) (fun z => by rw [z, nD] at e; cases e) (fun z => by rw [z, hk] at e; cases e) e⟩
theorem mem_dropLast {α : Type} {l : List α} {z : α} (h : z ∈ l.dropLast) : z ∈ l := by
  rw [List.dropLast_eq_take] at h
  exact List.mem_of_mem_take h
theorem cutV_m1 (xs : List V) (h : 1 ≤ xs.length) : cutV xs none (some (-1)) = xs.dropLast := by
  unfold cutV
  have e : HT.sIx xs.length xs.length (some (-1)) = xs.length - 1 := by
    have e0 : HT.sIx xs.length xs.length (some (-1)) = ((-1 : Int) + (xs.length : Int)).toNat := rfl
    rw [e0]
    omega
  rw [e, HT.sIx_none, List.drop_zero, Nat.sub_zero, List.dropLast_eq_take]
theorem paired_dropLast {α β : Type} {F : α → β → Prop} {l : List α} {r : List β} (h : Paired F l r) : Paired F l.dropLast r.dropLast := by
  rw [List.dropLast_eq_take, List.dropLast_eq_take, Paired.length h]
  exact paired_take _ h
theorem cutV_sub (xs : List V) (lo hi : Option Int) : ∀ z ∈ cutV xs lo hi, z ∈ xs := fun z hz => by
  unfold cutV at hz
  exact List.mem_of_mem_drop (List.mem_of_mem_take hz)
theorem pats_en {K : PySem.W.Frag} {H : Hp} {pss : List (List Str)} {xs : List V} (h : PatsV K H pss xs) : Paired (fun (i : Nat) (u : V × V) => u.1 = nI i ∧ StrsV K H (pss.getD i []) u.2) (List.range pss.length) (((List.range xs.length).map fun (n : Nat) => V.int (n : Int)).zip xs) := by
  have hl : pss.length = xs.length := Paired.length h
  apply paired_of_get
  · simp [hl]
  · intro i a b ha hb
    rw [List.getElem?_range (by
      have := (List.getElem?_eq_some_iff.mp ha).1
      simpa using this)] at ha
    cases ha
    rw [List.getElem?_zip_eq_some] at hb
    obtain ⟨h1, h2⟩ := hb
    rw [List.getElem?_map] at h1
    cases hr : (List.range xs.length)[i]? with
    | none => rw [hr] at h1; cases h1
    | some j =>
      rw [hr] at h1
      have hj : j = i := by
        rw [List.getElem?_range (by have := (List.getElem?_eq_some_iff.mp hr).1; simpa using this)] at hr
        exact (Option.some.inj hr).symm
      subst hj
      refine ⟨(Option.some.inj h1).symm, ?_⟩
      obtain ⟨ps, h3, h4⟩ := paired_ix h h2
      rw [List.getD, h3]
      exact h4
theorem wSs_same {X : Cx} {s1 s2 : List Stmt} {nx : L2.St → Hp → Prop} {rt : VK} {bk ct : L2.St → Hp → Prop} {σ : L2.St} {H : Hp} (e : s1 = s2) (h : wSs X s2 nx rt bk ct σ H) : wSs X s1 nx rt bk ct σ H := e ▸ h
/-! ### telling, plainly -/
theorem getD_dropLast {pss : List (List Str)} {i : Nat} (h : i < pss.length - 1) : pss.dropLast.getD i [] = pss.getD i [] := by
  rw [List.getD, List.getD, List.getElem?_dropLast, if_pos h]
theorem tel_iff {pss : List (List Str)} {ds : List Dt} {d : Dt} : telD pss ds d = true ↔ ∀ i < pss.length, ∀ j < pss.length, j ≠ i → has (pss.getD j []) ds (wr (pss.getD i []) d) = false := by
  unfold telD
  rw [List.all_eq_true]
  constructor
  · intro h i hi j hj hne
    have := h i (List.mem_range.mpr hi)
    rw [Bool.not_eq_true', List.any_eq_false] at this
    exact Bool.eq_false_iff.mpr (this j (List.mem_filter.mpr ⟨List.mem_range.mpr hj, by simp [hne]⟩))
  · intro h i hi
    rw [Bool.not_eq_true', List.any_eq_false]
    intro j hj
    obtain ⟨h1, h2⟩ := List.mem_filter.mp hj
    rw [h i (List.mem_range.mp hi) j (List.mem_range.mp h1) (by simpa using h2)]
    decide
theorem tel_drop {pss : List (List Str)} {ds : List Dt} {d : Dt} (h : telD pss ds d = true) : telD pss.dropLast ds d = true := by
  rw [tel_iff] at *
  intro i hi j hj hne
  rw [List.length_dropLast] at hi hj
  rw [getD_dropLast hi, getD_dropLast hj]
  exact h i (by omega) j (by omega) hne
theorem find_before {f : Dt → Bool} {l : List Dt} {d e : Dt} (hs : l.Pairwise dlt) (h : l.find? f = some e) (hd : d ∈ l) (hf : f d = true) : ¬ dlt d e := by
  intro hlt
  obtain ⟨p1, p2, hl, h1⟩ := List.find?_eq_some_iff_append.mp h |>.2
  rw [hl] at hd hs
  rcases List.mem_append.mp hd with hd | hd
  · have := h1 d hd
    rw [hf] at this
    cases this
  · rcases List.mem_cons.mp hd with rfl | hd
    · exact dlt_irrefl _ hlt
    · have := (List.pairwise_cons.mp (List.pairwise_append.mp hs).2.1).1 d hd
      exact dlt_asymm this hlt
theorem tel_fewer {pss : List (List Str)} {ds : List Dt} {d : Dt} (hs : ds.Pairwise dlt) (h : telOf pss ds = some d) : ∃ e, telOf pss.dropLast ds = some e ∧ ¬ dlt d e := by
  have h1 := List.find?_some h
  have hm := List.mem_of_find?_eq_some h
  cases he : telOf pss.dropLast ds with
  | none =>
    have := List.find?_eq_none.mp he d hm
    rw [tel_drop h1] at this
    exact absurd rfl this
  | some e => exact ⟨e, rfl, find_before hs he hm (tel_drop h1)⟩
theorem has_self {ps : List Str} {ds : List Dt} {d : Dt} (h : d ∈ ds) : has ps ds (wr ps d) = true := by
  unfold has
  exact List.any_eq_true.mpr ⟨d, h, decide_eq_true rfl⟩
theorem filter_one {p : Nat → Bool} {i n : Nat} (hi : i < n) (h : ∀ j < n, p j = decide (j = i)) : (List.range n).filter p = [i] := by
  have : (List.range n).filter p = (List.range n).filter fun j => decide (j = i) := List.filter_congr fun j hj => h j (List.mem_range.mp hj)
  rw [this]
  have e : List.range n = List.range i ++ (i :: List.range' (i + 1) (n - (i + 1))) := by
    rw [List.range_eq_range', List.range_eq_range', ← List.range'_succ, show n - (i + 1) + 1 = n - i by omega]
    have := List.range'_append (s := 0) (m := i) (n := n - i) (step := 1)
    simp at this
    rw [this]
    congr 1
    omega
  rw [e, List.filter_append, List.filter_cons_of_pos (by simp)]
  have h1 : (List.range i).filter (fun j => decide (j = i)) = [] := List.filter_eq_nil_iff.mpr fun j hj => by have := List.mem_range.mp hj; simp; omega
  have h2 : (List.range' (i + 1) (n - (i + 1))).filter (fun j => decide (j = i)) = [] := List.filter_eq_nil_iff.mpr fun j hj => by have := (List.mem_range'_1.mp hj).1; simp; omega
  rw [h1, h2]
  rfl
theorem fits_tel {pss : List (List Str)} {ds : List Dt} {d : Dt} {i : Nat} (h : telD pss ds d = true) (hd : d ∈ ds) (hi : i < pss.length) : fits pss ds [wr (pss.getD i []) d] = [i] := by
  unfold fits
  refine filter_one hi fun j hj => ?_
  simp only [List.all_cons, List.all_nil, Bool.and_true]
  by_cases e : j = i
  · subst e
    rw [has_self hd]
    simp
  · rw [tel_iff.mp h i hi j hj e]
    simp [e]
theorem fits_not {pss : List (List Str)} {ds : List Dt} {d : Dt} (h : telD pss ds d = false) : ∃ i, i < pss.length ∧ fits pss ds [wr (pss.getD i []) d] ≠ [i] := by
  apply Classical.byContradiction
  intro hn
  have : telD pss ds d = true := tel_iff.mpr fun i hi j hj hne => by
    have hf : fits pss ds [wr (pss.getD i []) d] = [i] := Classical.byContradiction fun z => hn ⟨i, hi, z⟩
    cases hz : has (pss.getD j []) ds (wr (pss.getD i []) d) with
    | false => rfl
    | true =>
      have : j ∈ fits pss ds [wr (pss.getD i []) d] := List.mem_filter.mpr ⟨List.mem_range.mpr hj, by simp only [List.all_cons, List.all_nil, Bool.and_true]; exact hz⟩
      rw [hf] at this
      exact absurd (List.mem_singleton.mp this) hne
  rw [h] at this
  cases this
theorem only_one {pss : List (List Str)} {ds : List Dt} {d : Dt} {i : Nat} {t : Str} (hs : ds.Pairwise dlt) (hf : fits pss ds [t] = [i]) (ht : wr (pss.getD i []) d = t) (hd : d ∈ ds) : onlyOf pss ds [t] t = if (ds.filter fun z => decide (wr (pss.getD i []) z = t)) = [d] then some d else none := by
  unfold onlyOf foundOf
  rw [hf]
  have e0 : ([i].flatMap fun i => ds.filter fun z => decide (wr (pss.getD i []) z = t)) = ds.filter fun z => decide (wr (pss.getD i []) z = t) := by simp
  rw [e0]
  have hm : d ∈ ds.filter fun z => decide (wr (pss.getD i []) z = t) := List.mem_filter.mpr ⟨hd, decide_eq_true ht⟩
  have hp : (ds.filter fun z => decide (wr (pss.getD i []) z = t)).Pairwise dlt := hs.filter _
  cases hF : ds.filter fun z => decide (wr (pss.getD i []) z = t) with
  | nil => rw [hF] at hm; cases hm
  | cons x r =>
    rw [hF] at hm hp
    cases r with
    | nil =>
      have := List.mem_singleton.mp hm
      subst this
      rw [if_pos rfl]
      rfl
    | cons y r =>
      rw [if_neg (by simp)]
      have : ¬ ((y :: r).all fun e => decide (e = x)) = true := fun z => by
        have h1 : y = x := by simpa using (List.all_eq_true.mp z y (by simp))
        have h2 := (List.pairwise_cons.mp hp).1 y (by simp)
        rw [h1] at h2
        exact dlt_irrefl _ h2
      show (if ((y :: r).all fun e => decide (e = x)) = true then some x else none) = none
      rw [if_neg this]
end DP
set_option Elab.async false
set_option linter.all false
set_option maxRecDepth 100000
set_option maxHeartbeats 1000000
namespace DP
open PySem L2
section
variable {X : Cx} {P : Program} {w : World} {K : PySem.W.Frag} {mg : Str → Option Value} {base : Heap} {N : List Str} {sc : Scope} {k : Nat} {lv : Bool}
variable {H : Hp} {Q : VK} {a Cl dx : Addr} {fs : List (Str × V)} {j : Nat} {sp : Sp}
/-- len of an own object -/
theorem c_lenOwn (C : Kx X P w K mg base N sc k lv) (M : CalM P w K mg base Cl j "__len__" sp) (ha : H a = some (.ins Cl dx fs)) (h : sp [.ref a] H (fun z H' => ∃ n : Nat, z = nI n ∧ n ≤ 1000000 ∧ Q (nI n) H') E0) (hk : j + 1 ≤ k := by decide) : wC X (.builtin "len") [.ref a] H Q := by
  obtain ⟨f, fd, ps, F, hm, hb⟩ := M.ex
  have e1 := C.eprog; have e2 := C.ew; have e3 := C.eK; have e4 := C.emg; have e5 := C.ebase
  subst e1 e2 e3 e4 e5
  refine ⟨fun pins s σ us I rv => ?_⟩
  rw [Vals.ref1 rv]
  obtain ⟨m, hF⟩ := I.fr
  obtain ⟨ox, od, J⟩ : ∃ ox od, PySem.W.InstAt s.heap a ox Cl od := by
    obtain ⟨mA, O, _⟩ := ins_get I.hok ha
    obtain ⟨od, J, _⟩ := O.look
    exact ⟨_, _, J⟩
  have hl : ([Value.ref a] : List Value).length = ps.length := F.len [.ref a] _ _ _ h
  refine PySem.W.len_K hF I.ok.mod.kin J hm.at_ hm.fn ?_
  have hr : Room j X.A.in1 := Room.in1 (C.room.mono hk)
  refine wpAny_mono (Q := fun v s' => EP X pins σ (fun z H' => ∃ n : Nat, z = nI n ∧ n ≤ 1000000 ∧ Q (nI n) H') v s') (wpAny_call (codeAny_mono (F.run X.A.in1 X.stack s H ⟨[.ref a], []⟩ ([Value.ref a] ++ []) [V.ref a] (fun z H' => ∃ n : Nat, z = nI n ∧ n ≤ 1000000 ∧ Q (nI n) H') E0 hr I.env0.in1 (hb s [.ref a] I.kIn (by simpa using hl)) (show Vals [V.ref a] [Value.ref a] from .cons rfl .nil) h) fun r s' hq => ?_)) (fun v s' z => ?_) fun _ _ x => x
  · cases r with
    | error e => exact pass0 pins σ H s e s' I hq
    | ok fl =>
      cases fl with
      | ret u => exact I.after hq
      | next => exact False.elim hq
      | brk => exact False.elim hq
      | cont => exact False.elim hq
  · obtain ⟨z', H', I', rz, n, ez, hn, qz⟩ := z
    subst ez
    obtain ⟨t, e⟩ := rz
    subst e
    exact ⟨⟨by omega, by omega⟩, nI n, H', I'.tok _, ⟨_, rfl⟩, qz⟩
end
/-! ### the rest of the reader -/
def uncStep (f : Str → Option Dt) (acc : List Str) (t : Str) : List Str := if t ∉ acc ∧ f t = none then acc ++ [t] else acc
def uncOf (pss : List (List Str)) (ds : List Dt) (ts : List Str) : List Str := ts.foldl (uncStep (onlyOf pss ds ts)) []
section
variable {K : PySem.W.Frag} {H H' : Hp} {Cl : Addr} {ds : List Dt} {pss : List (List Str)} {a tx : Addr} {L : List Addr} {ts : List Str} {Q : VK} {E : XK}
def sp_rlen (K : PySem.W.Frag) (Cl : Addr) : Sp := fun vs H Q _ => ∃ a ds pss tx L ts, vs = [.ref a] ∧ RdrV K H Cl ds pss a tx L ts ∧ Ret (nI ts.length) H Q
theorem u_rlen (h : RdrV K H Cl ds pss a tx L ts) (q : Ret (nI ts.length) H Q) : sp_rlen K Cl [.ref a] H Q E := ⟨a, ds, pss, tx, L, ts, rfl, h, q⟩
def sp_uncertain (K : PySem.W.Frag) (Cl : Addr) : Sp := fun vs H Q _ => ∃ a ds pss tx L ts, vs = [.ref a] ∧ RdrV K H Cl ds pss a tx L ts ∧ pss.length ≤ 100 ∧ ts.length ≤ 1000 ∧ ds.length ≤ 4464 ∧ ∀ p H', H p = none → Ex H H' → H' p = some (.lst ((uncOf pss ds ts).map V.str)) → Q (.ref p) H'
theorem u_uncertain (h : RdrV K H Cl ds pss a tx L ts) (h1 : pss.length ≤ 100) (h2 : ts.length ≤ 1000) (h3 : ds.length ≤ 4464) (q : ∀ p H', H p = none → Ex H H' → H' p = some (.lst ((uncOf pss ds ts).map V.str)) → Q (.ref p) H') : sp_uncertain K Cl [.ref a] H Q E := ⟨a, ds, pss, tx, L, ts, rfl, h, h1, h2, h3, q⟩
def sp_copy (K : PySem.W.Frag) (Cl : Addr) : Sp := fun vs H Q _ => ∃ a ds pss tx L ts, vs = [.ref a] ∧ RdrV K H Cl ds pss a tx L ts ∧ ts.length ≤ 1000 ∧ ∀ o tx2 H', H o = none → H tx2 = none → Ex H H' → RdrV K H' Cl ds pss o tx2 L ts → Q (.ref o) H'
theorem u_copy (h : RdrV K H Cl ds pss a tx L ts) (h2 : ts.length ≤ 1000) (q : ∀ o tx2 H', H o = none → H tx2 = none → Ex H H' → RdrV K H' Cl ds pss o tx2 L ts → Q (.ref o) H') : sp_copy K Cl [.ref a] H Q E := ⟨a, ds, pss, tx, L, ts, rfl, h, h2, q⟩
end
end DP
set_option Elab.async false
set_option linter.all false
set_option maxRecDepth 100000
set_option maxHeartbeats 1000000
namespace DP
open PySem L2 PyProof.Rows
/-! ### sum(lists, []) -/
section
variable {prog : Program} {w : World} {A : Around}
abbrev lsO (vs : List Value) (c : Nat) : Obj := { cls := .type "list", data := .seq vs.toArray c }
theorem sum_two (a b : Value) : argsOk "sum" ⟨[a, b], []⟩ := by unfold argsOk; kernel_rfl
/-- the loop, its total a list -/
theorem sumL_loop {I S T0 : Addr} {fp wr : List Addr} {n : Nat} {Pr : Nat → Value → Prop} {St : Nat → Heap → Prop} {R : Result → Shared → Prop} (W : Walks prog w A.in1 I fp wr n Pr St) (hfp : ∀ b ∈ fp, b < S) (s0 : Shared) (ls : List (List Value))
    (hv : ∀ i v, Pr i v → ∃ a vs c, v = .ref a ∧ ls[i]? = some vs ∧ s0.heap.get? a = some (lsO vs c) ∧ a ∉ wr ∧ a ≠ S)
    (hn : n = ls.length) (hz : ls.flatten.length ≤ sizeLine)
    (hR : ∀ h' tk T c, (∀ b o, b ∉ wr → b ≠ S → s0.heap.get? b = some o → h'.get? b = some o) → (n = 0 ∧ T = T0 ∨ S < T) → h'.get? T = some (lsO ls.flatten c) → R (.ok (.ret (.ref T))) { s0 with heap := h', toks := tk }) :
    ∀ (k i : Nat) (h : Heap) (tk : Nat) (T : Addr) (c c2 : Nat), n - i = k → i ≤ n → St i h → (∀ b o, b ∉ wr → b ≠ S → s0.heap.get? b = some o → h.get? b = some o) →
      h.get? S = some (lsO [.ref T] c) → h.get? T = some (lsO (ls.take i).flatten c2) → T ∉ wr → T ≠ S → (i = 0 ∧ T = T0 ∨ S < T) →
      codeAny (model prog w) A (.builtin "sum.loop" ⟨[.ref I, .ref S, rawInt 2, rawInt 0], []⟩) R { s0 with heap := h, toks := tk } := by
  have hSf : S ∉ fp := fun h => Nat.lt_irrefl _ (hfp S h)
  have hSw : S ∉ wr := fun h => hSf (W.sub _ h)
  intro k
  induction k with
  | zero =>
    intro i h tk T c c2 hk hi hst hkeep hS hT hTw hTS hor
    obtain rfl : i = n := by omega
    refine codeAny_builtin F.entry_sum_loop ?_; rw [Around.under_plainId F.plain_sum_loop _]
    show wpAny _ A.in1 (seqItems? (.ref S) >>= _) _ _ ({ s0 with heap := h, toks := tk } : Shared)
    refine wpAny_bind (wpAny_seqItems hS rfl ?_); show wpAny _ A.in1 (tryCatch (pyNext (.ref I)) _ >>= _) _ _ _
    refine wpAny_bind (wpAny_tryCatch (W.done _ _ _ hst fun h' tk' hk' => ?_))
    refine wpAny_pure (hR h' tk' T c2 (fun b o h1 h2 e => hk' b o h1 (hkeep b o h1 h2 e)) hor ?_)
    have := hk' T _ hTw hT
    rw [hn, List.take_length] at this
    exact this
  | succ k ih =>
    intro i h tk T c c2 hk hi hst hkeep hS hT hTw hTS hor
    have hlt : i < n := by omega
    refine codeAny_builtin F.entry_sum_loop ?_; rw [Around.under_plainId F.plain_sum_loop _]
    show wpAny _ A.in1 (seqItems? (.ref S) >>= _) _ _ ({ s0 with heap := h, toks := tk } : Shared)
    refine wpAny_bind (wpAny_seqItems hS rfl ?_); show wpAny _ A.in1 (tryCatch (pyNext (.ref I)) _ >>= _) _ _ _
    refine wpAny_bind (wpAny_tryCatch (W.item i _ _ _ hlt hst fun v h' tk' hP hst' hk' => ?_))
    obtain ⟨a, vs, ca, rfl, hvs, ha, haw, haS⟩ := hv i v hP
    have hS' := hk' S _ hSw hS
    have hT' := hk' T _ hTw hT
    have ha' := hk' a _ haw (hkeep a _ haw haS ha)
    have htk : (ls.take (i + 1)).flatten = (ls.take i).flatten ++ vs := by rw [List.take_add_one, hvs, List.flatten_append]; simp
    have hle : (ls.take (i + 1)).flatten.length ≤ sizeLine := by
      refine Nat.le_trans ?_ hz
      conv => rhs; rw [← List.take_append_drop (i + 1) ls, List.flatten_append, List.length_append]
      omega
    rw [htk, List.length_append] at hle
    show wpAny _ A.in1 ((holding [Value.ref a] (binaryOp .Add (.ref T) (.ref a))).attempt >>= _) _ _ _
    refine wpAny_bind (wpAny_attempt (wpAny_holding (PySem.P.add_list hT' ha' ?_ (by rw [List.size_toArray, List.size_toArray]; exact hle))))
    show wpAny _ A.in1 (updateSeq S (fun _ => #[.ref h'.objs.size]) >>= _) _ _ _
    have hSp := Heap.get?_push_of_some ({ cls := .type "list", data := .seq ((ls.take i).flatten.toArray ++ vs.toArray) } : Obj) hS'
    refine wpAny_bind (wpAny_updateSeq hSp rfl ?_)
    have hS2 := Heap.get?_update_self (Obj.mapSeq fun _ => #[Value.ref h'.objs.size]) hSp rfl
    have hSlt : S < h'.objs.size := Heap.lt_size hS'
    refine wpAny_bind (wpAny_letGo ?_)
    refine wpAny_bind (wpAny_updateSeq hS2 rfl (wpAny_pure ⟨plainId_quiet F.plain_sum_loop _, ?_⟩))
    have hother : ∀ b o, b ≠ S → h'.get? b = some o → (((h'.push ({ cls := .type "list", data := .seq ((ls.take i).flatten.toArray ++ vs.toArray) } : Obj)).update S (Obj.mapSeq fun _ => #[Value.ref h'.objs.size])).update S (Obj.mapSeq fun _ => #[Value.ref h'.objs.size])).get? b = some o := fun b o hb e =>
      (Heap.get?_update_other _ _ hb.symm).trans ((Heap.get?_update_other _ _ hb.symm).trans (Heap.get?_push_of_some _ e))
    refine ih (i + 1) _ tk' h'.objs.size _ 0 (by omega) hlt (W.frame _ _ _ hst' fun b hb o e => hother b o (fun z => hSf (z ▸ hb)) e) (fun b o h1 h2 e => hother b o h2 (hk' b o h1 (hkeep b o h1 h2 e))) (Heap.get?_update_self _ hS2 rfl) ?_ (fun hm => Nat.lt_irrefl _ (Nat.lt_trans hSlt (hfp _ (W.sub _ hm)))) (Nat.ne_of_gt hSlt) (.inr hSlt)
    refine (Heap.get?_update_other _ _ (Nat.ne_of_lt hSlt)).trans ((Heap.get?_update_other _ _ (Nat.ne_of_lt hSlt)).trans ((Heap.get?_push_size _ rfl).trans ?_))
    rw [htk]
    simp [lsO]
end
section
variable {X : Cx} {P : Program} {w : World} {K : PySem.W.Frag} {mg : Str → Option Value} {base : Heap} {N : List Str} {sc : Scope} {k : Nat} {lv : Bool}
variable {H : Hp} {Q : VK} {a b : Addr}
/-- sum(lists, []) -/
theorem c_sumL (C : Kx X P w K mg base N sc k lv) {as : List Addr} {ls : List (List V)} (hq : SqL K H a (as.map V.ref)) (hl : Paired (fun q xs => H q = some (.lst xs)) as ls) (hb : H b = some (.lst [])) (hz : ls.flatten.length ≤ 1000000)
    (h : ∀ p H', Ex H H' → H' p = some (.lst ls.flatten) → Q (.ref p) H') : wC X (.builtin "sum") [.ref a, .ref b] H Q := by
  have e3 := C.eK; subst e3
  refine ⟨fun pins s σ us I rv => ?_⟩
  obtain ⟨its, r, pl, hsz⟩ := I.list hq
  obtain rfl : us = [.ref a, .ref b] := by
    cases rv with
    | cons r1 t =>
      cases t with
      | cons r2 t2 => cases t2; cases r1; cases r2; rfl
  obtain rfl : its = as.map Value.ref := by
    clear hl hsz pl hq
    induction as generalizing its with
    | nil => cases r; rfl
    | cons q as ih =>
      cases r with
      | cons r1 r2 => cases r1; rw [ih _ r2]; rfl
  -- the lists as they stand
  obtain ⟨vss, hvss⟩ : ∃ vss : List (List Value), Paired (fun (q : Addr × List V) vs => Vals q.2 vs ∧ ∃ c, s.heap.get? q.1 = some (lsO vs c)) (as.zip ls) vss := by
    have : ∀ (as : List Addr) (ls : List (List V)), Paired (fun q xs => H q = some (.lst xs)) as ls → ∃ vss : List (List Value), Paired (fun (q : Addr × List V) vs => Vals q.2 vs ∧ ∃ c, s.heap.get? q.1 = some (lsO vs c)) (as.zip ls) vss := by
      intro as ls hl
      induction hl with
      | nil => exact ⟨[], .nil⟩
      | cons h1 h2 ih =>
        obtain ⟨vss, hv⟩ := ih
        obtain ⟨_, its, n, r, _, e⟩ := I.lstM h1
        exact ⟨its :: vss, .cons ⟨r, n, e⟩ hv⟩
    exact this as ls hl
  have hlen : as.length = ls.length := Paired.length hl
  have hvl : ls.length = vss.length := by
    have := Paired.length hvss
    rw [List.length_zip, hlen, Nat.min_self] at this
    exact this
  have hfl : Vals ls.flatten vss.flatten := by
    have : ∀ (zs : List (Addr × List V)) (vss : List (List Value)), Paired (fun (q : Addr × List V) vs => Vals q.2 vs ∧ ∃ c, s.heap.get? q.1 = some (lsO vs c)) zs vss → Vals (zs.map (·.2)).flatten vss.flatten := by
      intro zs vss hv
      induction hv with
      | nil => exact .nil
      | cons h1 h2 ih => rw [List.map_cons, List.flatten_cons, List.flatten_cons]; exact h1.1.append ih
    have := this _ _ hvss
    rw [List.map_snd_zip (by omega)] at this
    exact this
  have hvz : vss.flatten.length ≤ sizeLine := by rw [← hfl.length]; exact sz5 hz
  obtain ⟨_, itb, nb, rb, _, eb⟩ := I.lstM hb
  cases rb
  refine call_function_tree F.kind_sum F.plain_sum F.entry_sum (sum_two _ _) ?_
  unfold Builtin.«sum»; simp only [List.length_cons, List.length_nil]
  rw [if_neg (by decide)]
  refine wpAny_bind (wpAny_of_eq (show Builtin.Builtins.bindParams "sum" ["start"] 0 ⟨[.ref b], []⟩ = pure [some (.ref b)] from rfl) ?_)
  have hlt : a < s.heap.objs.size := by obtain ⟨_, e, _⟩ := pl.isList; exact Heap.lt_size e
  refine wpAny_bind (wpAny_pyIter_list pl.isList ?_)
  refine wpAny_bind (wpAny_pure ?_)
  simp only [List.forIn_cons, List.forIn_nil]
  have eb1 := Heap.get?_push_of_some ({ cls := .type "list_iterator", data := .fields #[.ref a, .int 0 0] } : Obj) eb
  refine wpAny_bind (wpAny_bind (wpAny_bind (wpAny_isInstance (T := "list") (b := false) ⟨_, eb1, rfl⟩ F.sub_list_str ?_)))
  simp only [Bool.false_eq_true, if_false]; refine wpAny_pure (wpAny_bind (wpAny_bind (wpAny_isInstance (T := "list") (b := false) ⟨_, eb1, rfl⟩ F.sub_list_bytes ?_)))
  simp only [Bool.false_eq_true, if_false]; refine wpAny_pure (wpAny_bind (wpAny_bind (wpAny_isInstance (T := "list") (b := false) ⟨_, eb1, rfl⟩ F.sub_list_bytearray ?_)))
  simp only [Bool.false_eq_true, if_false]; refine wpAny_pure (wpAny_pure ?_)
  refine wpAny_bind (wpAny_newObj_type ?_)
  have hlI : a ≠ s.heap.objs.size := Nat.ne_of_lt hlt
  have W := Walks.list (prog := X.prog) (w := X.w) (A := X.A.in1) (I.ok.hd C.calm) s.heap.objs.size a hlI (as.map Value.ref).toArray
  have hps : (s.heap.push ({ cls := .type "list_iterator", data := .fields #[.ref a, .int 0 0] } : Obj)).objs.size = s.heap.objs.size + 1 := by simp [Heap.push]
  have hkp : ∀ q o, s.heap.get? q = some o → ((s.heap.push ({ cls := .type "list_iterator", data := .fields #[.ref a, .int 0 0] } : Obj)).push ({ cls := .type "list", data := .seq #[.ref b] } : Obj)).get? q = some o := fun q o e => Heap.get?_push_of_some _ (Heap.get?_push_of_some _ e)
  refine wpAny_pure ⟨plainId_quiet F.plain_sum_loop _, ?_⟩
  refine sumL_loop (T0 := b) (S := (s.heap.push ({ cls := .type "list_iterator", data := .fields #[.ref a, .int 0 0] } : Obj)).objs.size) W (fun q hq => ?_) s vss (fun i v hP => ?_) (by rw [List.size_toArray, List.length_map, hlen, hvl]) hvz (fun h' tk T c hk hor hT => ?_) _ 0 _ _ b 0 nb rfl (Nat.zero_le _) ?_ (fun q o _ _ e => hkp q o e) (Heap.get?_push_size _ rfl) ?_ ?_ ?_ (.inl ⟨rfl, rfl⟩)
  · rw [hps]
    simp only [List.mem_cons, List.not_mem_nil, or_false] at hq
    rcases hq with rfl | rfl
    · exact Nat.lt_succ_self _
    · exact Nat.lt_succ_of_lt hlt
  · have hP : (as.map Value.ref).toArray[i]? = some v := hP
    rw [List.getElem?_toArray, List.getElem?_map] at hP
    cases hai : as[i]? with
    | none => rw [hai] at hP; cases hP
    | some q =>
      rw [hai] at hP; cases hP
      have hil : i < as.length := (List.getElem?_eq_some_iff.mp hai).1
      have hli : ls[i]? = some ls[i] := List.getElem?_eq_getElem (by omega)
      obtain ⟨vs, e1, _, c, e2⟩ := paired_get hvss i (q, ls[i]) (by rw [List.getElem?_zip_eq_some]; exact ⟨hai, hli⟩)
      have hql : q < s.heap.objs.size := Heap.lt_size e2
      refine ⟨q, vs, c, rfl, e1, e2, fun hm => ?_, ?_⟩
      · rw [List.mem_singleton.mp hm] at hql; exact Nat.lt_irrefl _ hql
      · rw [hps]; exact Nat.ne_of_lt (Nat.lt_succ_of_lt hql)
  · have hkeep : ∀ q o, s.heap.get? q = some o → h'.get? q = some o := fun q o e => by
      have hql : q < s.heap.objs.size := Heap.lt_size e
      refine hk q o (fun hm => ?_) ?_ e
      · rw [List.mem_singleton.mp hm] at hql; exact Nat.lt_irrefl _ hql
      · rw [hps]; exact Nat.ne_of_lt (Nat.lt_succ_of_lt hql)
    rcases hor with ⟨hn0, rfl⟩ | hTs
    · have hl0 : ls = [] := by
        rw [List.size_toArray, List.length_map] at hn0
        exact List.length_eq_zero_iff.mp (by omega)
      subst hl0
      exact ⟨.ref _, H, I.kept hkeep, rfl, h _ H (Ex.refl _) hb⟩
    · rw [hps] at hTs
      have hTl : s.heap.objs.size ≤ T := Nat.le_of_lt (Nat.lt_of_succ_lt hTs)
      exact ⟨.ref T, upd H T (.lst ls.flatten), I.laid (t' := tk) hkeep hTl ⟨sz5 hz, vss.flatten, c, hfl, hT⟩, rfl, h T _ (Ex.new (I.hok.fresh hTl)) upd_same⟩
  · exact ⟨⟨_, Heap.get?_push_of_some _ (Heap.get?_push_size _ rfl), rfl, rfl⟩, (pl.isList.push _).push _⟩
  · exact hkp b _ eb
  · intro hm
    have hbl : b < s.heap.objs.size := Heap.lt_size eb
    rw [List.mem_singleton.mp hm] at hbl; exact Nat.lt_irrefl _ hbl
  · have hbl : b < s.heap.objs.size := Heap.lt_size eb
    rw [hps]; exact Nat.ne_of_lt (Nat.lt_succ_of_lt hbl)
/-- sorted(texts) -/
theorem c_sortS (C : Kx X P w K mg base N sc k lv) {xs : List Str} (hq : SqL K H a (xs.map V.str)) (hl : xs.length < 64) (h : ∀ ys p, ys.Perm xs → PyProof.Rows.sortedS ys = true → H p = none → Q (.ref p) (upd H p (.lst (ys.map V.str)))) : wC X (.builtin "sorted") [.ref a] H Q := by
  have e3 := C.eK; subst e3
  exact goC cr_sortedS ⟨a, xs, rfl, hq, hl, h⟩
end
end DP
set_option Elab.async false
set_option linter.all false
set_option maxRecDepth 100000
set_option maxHeartbeats 1000000
namespace DP
open PySem L2
/-! ### sorted texts: one order only -/
def sle (a b : Str) : Prop := ¬ b.cps.toList < a.cps.toList
theorem sle_trans {a b c : Str} (h1 : sle a b) (h2 : sle b c) : sle a c := fun h => by
  have h1' : a.cps.toList ≤ b.cps.toList := List.not_lt.mp h1
  have h2' : b.cps.toList ≤ c.cps.toList := List.not_lt.mp h2
  exact (List.not_lt.mpr (List.le_trans h1' h2')) h
theorem sle_antisymm {a b : Str} (h1 : sle a b) (h2 : sle b a) : a = b := cs_inj (List.le_antisymm (List.not_lt.mp h1) (List.not_lt.mp h2))
theorem rising_pw : ∀ (l : List Str) (p : Str), PyProof.Rows.risingS p l = true → (p :: l).Pairwise sle
  | [], p, _ => by simp
  | x :: r, p, h => by
    have h : (!PySem.Spec.ltCps x.cps.toList p.cps.toList && PyProof.Rows.risingS x r) = true := h
    rw [Bool.and_eq_true] at h
    have ih := rising_pw r x h.2
    have h1 : sle p x := by
      have := h.1
      rw [PyProof.Rows.ltCps_eq] at this
      simpa [sle] using this
    refine List.pairwise_cons.mpr ⟨fun y hy => ?_, ih⟩
    rcases List.mem_cons.mp hy with rfl | hy
    · exact h1
    · exact sle_trans h1 ((List.pairwise_cons.mp ih).1 y hy)
theorem sorted_pw {l : List Str} (h : PyProof.Rows.sortedS l = true) : l.Pairwise sle := by
  cases l with
  | nil => simp
  | cons x r => exact rising_pw r x h
theorem perm_sorted : ∀ {l m : List Str}, l.Perm m → l.Pairwise sle → m.Pairwise sle → l = m
  | [], m, h, _, _ => (List.nil_perm.mp h).symm
  | x :: l, [], h, _, _ => absurd h.symm (by simp)
  | x :: l, y :: m, h, h1, h2 => by
    obtain ⟨a1, a2⟩ := List.pairwise_cons.mp h1
    obtain ⟨b1, b2⟩ := List.pairwise_cons.mp h2
    have hx : x ∈ y :: m := h.mem_iff.mp List.mem_cons_self
    have hy : y ∈ x :: l := h.mem_iff.mpr List.mem_cons_self
    have e : x = y := by
      rcases List.mem_cons.mp hx with e | hx
      · exact e
      · rcases List.mem_cons.mp hy with e | hy
        · exact e.symm
        · exact sle_antisymm (a1 y hy) (b1 x hx)
    subst e
    rw [perm_sorted h.cons_inv a2 b2]
/-! ### readers: what the order of the texts does -/
variable {pss : List (List Str)} {ds : List Dt} {ts ts' : List Str} {t : Str}
theorem mem_fits {i : Nat} : i ∈ fits pss ds ts ↔ i < pss.length ∧ ∀ t ∈ ts, has (pss.getD i []) ds t = true := by
  unfold fits
  rw [List.mem_filter, List.mem_range, List.all_eq_true]
theorem fits_lt {i : Nat} (h : i ∈ fits pss ds ts) : i < pss.length := (mem_fits.mp h).1
theorem fits_len (pss : List (List Str)) (ds : List Dt) (ts : List Str) : (fits pss ds ts).length ≤ pss.length := by
  have := List.length_filter_le (fun i => ts.all (has (pss.getD i []) ds)) (List.range pss.length)
  rw [List.length_range] at this
  exact this
theorem fits_snoc {i : Nat} (h : i ∈ fits pss ds (ts ++ [t])) : i ∈ fits pss ds ts := by
  obtain ⟨h1, h2⟩ := mem_fits.mp h
  exact mem_fits.mpr ⟨h1, fun s hs => h2 s (List.mem_append_left _ hs)⟩
theorem fits_congr (h : ∀ t, t ∈ ts ↔ t ∈ ts') : fits pss ds ts = fits pss ds ts' := by
  unfold fits
  congr 1
  funext i
  rw [Bool.eq_iff_iff, List.all_eq_true, List.all_eq_true]
  exact ⟨fun z s hs => z s ((h s).mpr hs), fun z s hs => z s ((h s).mp hs)⟩
theorem only_congr (h : ∀ t, t ∈ ts ↔ t ∈ ts') : onlyOf pss ds ts = onlyOf pss ds ts' := by
  funext s
  unfold onlyOf
  rw [fits_congr h]
theorem unc_fold {f : Str → Option Dt} : ∀ (ts acc : List Str), acc.Nodup → (ts.foldl (uncStep f) acc).Nodup ∧ ∀ t, t ∈ ts.foldl (uncStep f) acc ↔ t ∈ acc ∨ (t ∈ ts ∧ f t = none)
  | [], acc, h => ⟨h, fun t => by simp⟩
  | s :: ts, acc, h => by
    have hs : (uncStep f acc s).Nodup ∧ ∀ t, t ∈ uncStep f acc s ↔ t ∈ acc ∨ (t = s ∧ f s = none) := by
      unfold uncStep
      by_cases hc : s ∉ acc ∧ f s = none
      · rw [if_pos hc]
        refine ⟨List.nodup_append.mpr ⟨h, by simp, fun a ha b hb => ?_⟩, fun t => ?_⟩
        · rw [List.mem_singleton.mp hb]; intro e; exact hc.1 (e ▸ ha)
        · rw [List.mem_append, List.mem_singleton]
          exact ⟨fun z => z.imp id fun z => ⟨z, hc.2⟩, fun z => z.imp id fun z => z.1⟩
      · rw [if_neg hc]
        refine ⟨h, fun t => ⟨fun z => .inl z, fun z => ?_⟩⟩
        rcases z with z | ⟨rfl, z⟩
        · exact z
        · by_cases hm : t ∈ acc
          · exact hm
          · exact absurd ⟨hm, z⟩ hc
    obtain ⟨h1, h2⟩ := unc_fold ts _ hs.1
    refine ⟨h1, fun t => (h2 t).trans ?_⟩
    rw [hs.2 t, List.mem_cons]
    constructor
    · rintro ((z | ⟨rfl, z⟩) | ⟨z, y⟩)
      · exact .inl z
      · exact .inr ⟨.inl rfl, z⟩
      · exact .inr ⟨.inr z, y⟩
    · rintro (z | ⟨rfl | z, y⟩)
      · exact .inl (.inl z)
      · exact .inl (.inr ⟨rfl, y⟩)
      · exact .inr ⟨z, y⟩
theorem unc_mem : t ∈ uncOf pss ds ts ↔ t ∈ ts ∧ onlyOf pss ds ts t = none := by
  have := (unc_fold (f := onlyOf pss ds ts) ts [] (by simp)).2 t
  simpa [uncOf] using this
theorem unc_nodup : (uncOf pss ds ts).Nodup := (unc_fold (f := onlyOf pss ds ts) ts [] (by simp)).1
theorem unc_len : (uncOf pss ds ts).length ≤ ts.length := by
  have : ∀ (f : Str → Option Dt) (ts acc : List Str), (ts.foldl (uncStep f) acc).length ≤ acc.length + ts.length := by
    intro f ts
    induction ts with
    | nil => intro acc; simp
    | cons s ts ih =>
      intro acc
      refine Nat.le_trans (ih _) ?_
      unfold uncStep
      split <;> simp <;> omega
  have := this (onlyOf pss ds ts) ts []
  simpa [uncOf] using this
theorem nodup_perm : ∀ {l m : List Str}, l.Nodup → m.Nodup → (∀ t, t ∈ l ↔ t ∈ m) → l.Perm m
  | [], m, _, _, h => by
    cases m with
    | nil => exact .nil
    | cons x m => exact absurd ((h x).mpr List.mem_cons_self) (by simp)
  | x :: l, m, h1, h2, h => by
    obtain ⟨a1, a2⟩ := List.nodup_cons.mp h1
    have hx : x ∈ m := (h x).mp List.mem_cons_self
    refine (List.Perm.cons x (nodup_perm a2 (h2.erase x) fun t => ?_)).trans (List.perm_cons_erase hx).symm
    rw [h2.mem_erase_iff]
    constructor
    · intro ht
      exact ⟨fun e => a1 (e ▸ ht), (h t).mp (List.mem_cons_of_mem _ ht)⟩
    · rintro ⟨n, ht⟩
      rcases List.mem_cons.mp ((h t).mpr ht) with e | ht
      · exact absurd e n
      · exact ht
theorem unc_perm (h : ∀ t, t ∈ ts ↔ t ∈ ts') : (uncOf pss ds ts).Perm (uncOf pss ds ts') :=
  nodup_perm unc_nodup unc_nodup fun t => by rw [unc_mem, unc_mem, only_congr h, h t]
theorem unc_sorted (h : ∀ t, t ∈ ts ↔ t ∈ ts') {ys zs : List Str} (h1 : ys.Perm (uncOf pss ds ts)) (h2 : zs.Perm (uncOf pss ds ts')) (s1 : PyProof.Rows.sortedS ys = true) (s2 : PyProof.Rows.sortedS zs = true) : ys = zs :=
  perm_sorted (h1.trans ((unc_perm h).trans h2.symm)) (sorted_pw s1) (sorted_pw s2)
theorem twice_mem {n : Nat} : t ∈ ts ↔ t ∈ (ts ++ ts.take n).reverse := by
  rw [List.mem_reverse, List.mem_append]
  exact ⟨.inl, fun z => z.elim id fun z => List.mem_of_mem_take z⟩
/-! ### the only reading -/
theorem onlyL_mem {l : List Dt} {d : Dt} (h : onlyL l = some d) : d ∈ l := by
  cases l with
  | nil => cases h
  | cons e r =>
    have h : (if (r.all fun z => decide (z = e)) = true then some e else none) = some d := h
    split at h
    · cases h; exact List.mem_cons_self
    · cases h
theorem onlyL_none_cons {e : Dt} {r : List Dt} : onlyL (e :: r) = none ↔ (r.all fun z => decide (z = e)) = false := by
  show (if (r.all fun z => decide (z = e)) = true then some e else none) = none ↔ _
  cases (r.all fun z => decide (z = e)) <;> simp
/-- texts as data -/
def lsD (l : List Str) : PyData := .list (l.map PyData.str)
theorem clean_lsD (a : List Str) : clean (lsD a) = true := by
  show cleanA (a.map PyData.str) = true
  exact cleanA_map fun _ => rfl
theorem eqv_lsD (a b : List Str) : PyData.eqv (lsD a) (lsD b) = decide (a = b) :=
  eqv_dec (clean_lsD a) (clean_lsD b) ⟨fun h => map_inj (fun {x y} (e : PyData.str x = PyData.str y) => by cases e; rfl) (PyData.list.inj h), fun h => by rw [h]⟩
theorem dp_ls {K : PySem.W.Frag} {H : Hp} {l : List Str} {a : Addr} (h : SqL K H a (l.map V.str)) : Dp K H (.ref a) (lsD l) := .lst h (dpA_strs l)
theorem sh_lsD {n : Nat} {l : List Str} (h : ∀ p ∈ l, PyData.strOk p = true) : sh (n + 1) (lsD l) := sh_strs h
end DP
set_option Elab.async false
set_option linter.all false
set_option maxRecDepth 100000
set_option maxHeartbeats 1000000
namespace DP
open PySem L2
/-! ### a reader's methods, by what they answer -/
section
variable {X : Cx} {P : Program} {w : World} {K : PySem.W.Frag} {mg : Str → Option Value} {base : Heap} {N : List Str} {sc : Scope} {k : Nat} {lv : Bool}
variable {σ : L2.St} {H : Hp} {Q : VK} {pos apos : Pos} {e oe : Expr} {Cl o tx : Addr} {L : List Addr} {ts : List Str} {pss : List (List Str)} {ds : List Dt} {j : Nat} {s : Str} {pl : Sem Bool}
theorem RdrV.ins (h : RdrV K H Cl ds pss o tx L ts) : ∃ dx tb, H o = some (.ins Cl dx [("tables", .ref tb), ("texts", .ref tx)]) := let ⟨⟨dx, tb, _, h, _⟩, _, _, _⟩ := h; ⟨dx, tb, h⟩
theorem e_cand (C : Kx X P w K mg base N sc k lv) (c : Cls K Cl) (M : CalM P w K mg base Cl j "candidates" (sp_candidates K Cl)) (he : wE X oe σ H fun x H1 => x = .ref o ∧ H1 = H) (hR : RdrV K H Cl ds pss o tx L ts) (h1 : pss.length ≤ 1000) (h2 : ts.length ≤ 1000) (q : RetNs (fits pss ds ts) H Q) (hk : j ≤ k := by decide)
    (ht : eval (.Call (.Attribute oe "candidates" apos) [] [] pos) X.env = (do
      let ov ← eval oe X.env
      standAt apos.atName
      let (f, first) ← holding [ov] (getMethod ov "candidates" pl)
      callWith pos f first (backTo pos (starEach [] X.env)) (backToKw pos (keywordEach [] X.env))) := by rfl) :
    wE X (.Call (.Attribute oe "candidates" apos) [] [] pos) σ H Q :=
  e_meth0 C c M (wE_mono (fun x H1 ⟨e1, e2⟩ => by
    subst e1 e2
    obtain ⟨dx, tb, hi⟩ := hR.ins
    exact ⟨o, dx, _, rfl, hi, rfl, u_candidates hR h1 h2 q⟩) he) hk ht
theorem e_unc (C : Kx X P w K mg base N sc k lv) (c : Cls K Cl) (M : CalM P w K mg base Cl j "uncertain" (sp_uncertain K Cl)) (he : wE X oe σ H fun x H1 => x = .ref o ∧ H1 = H) (hR : RdrV K H Cl ds pss o tx L ts) (h1 : pss.length ≤ 100) (h2 : ts.length ≤ 1000) (h3 : ds.length ≤ 4464) (q : ∀ p H', H p = none → Ex H H' → H' p = some (.lst ((uncOf pss ds ts).map V.str)) → Q (.ref p) H') (hk : j ≤ k := by decide)
    (ht : eval (.Call (.Attribute oe "uncertain" apos) [] [] pos) X.env = (do
      let ov ← eval oe X.env
      standAt apos.atName
      let (f, first) ← holding [ov] (getMethod ov "uncertain" pl)
      callWith pos f first (backTo pos (starEach [] X.env)) (backToKw pos (keywordEach [] X.env))) := by rfl) :
    wE X (.Call (.Attribute oe "uncertain" apos) [] [] pos) σ H Q :=
  e_meth0 C c M (wE_mono (fun x H1 ⟨e1, e2⟩ => by
    subst e1 e2
    obtain ⟨dx, tb, hi⟩ := hR.ins
    exact ⟨o, dx, _, rfl, hi, rfl, u_uncertain hR h1 h2 h3 q⟩) he) hk ht
theorem e_copy (C : Kx X P w K mg base N sc k lv) (c : Cls K Cl) (M : CalM P w K mg base Cl j "copy" (sp_copy K Cl)) (he : wE X oe σ H fun x H1 => x = .ref o ∧ H1 = H) (hR : RdrV K H Cl ds pss o tx L ts) (h2 : ts.length ≤ 1000) (q : ∀ o2 tx2 H', H o2 = none → H tx2 = none → Ex H H' → RdrV K H' Cl ds pss o2 tx2 L ts → Q (.ref o2) H') (hk : j ≤ k := by decide)
    (ht : eval (.Call (.Attribute oe "copy" apos) [] [] pos) X.env = (do
      let ov ← eval oe X.env
      standAt apos.atName
      let (f, first) ← holding [ov] (getMethod ov "copy" pl)
      callWith pos f first (backTo pos (starEach [] X.env)) (backToKw pos (keywordEach [] X.env))) := by rfl) :
    wE X (.Call (.Attribute oe "copy" apos) [] [] pos) σ H Q :=
  e_meth0 C c M (wE_mono (fun x H1 ⟨e1, e2⟩ => by
    subst e1 e2
    obtain ⟨dx, tb, hi⟩ := hR.ins
    exact ⟨o, dx, _, rfl, hi, rfl, u_copy hR h2 q⟩) he) hk ht
theorem e_feed (C : Kx X P w K mg base N sc k lv) (c : Cls K Cl) (M : CalM P w K mg base Cl j "feed" (sp_feed K Cl)) (he : wE X oe σ H fun x H1 => x = .ref o ∧ H1 = H) (hR : RdrV K H Cl ds pss o tx L ts) (hs : wE X e σ H fun x H1 => x = .str s ∧ H1 = H) (h1 : pss.length ≤ 1000) (h2 : ts.length ≤ 900) (q : ∀ p H', H p = none → Bt tx H H' → RdrV K H' Cl ds pss o tx L (ts ++ [s]) → H' p = some (.lst ((fits pss ds (ts ++ [s])).map nI)) → Q (.ref p) H') (hk : j ≤ k := by decide)
    (hst : starEach [e] X.env = (false, eval e X.env) :: starEach [] X.env := by rfl) (hpl : (backTo pos (starEach [] X.env)).any (·.1) = false := by rfl)
    (ht : eval (.Call (.Attribute oe "feed" apos) [e] [] pos) X.env = (do
      let ov ← eval oe X.env
      standAt apos.atName
      let (f, first) ← holding [ov] (getMethod ov "feed" pl)
      callWith pos f first (backTo pos (starEach [e] X.env)) (backToKw pos (keywordEach [] X.env))) := by rfl) :
    wE X (.Call (.Attribute oe "feed" apos) [e] [] pos) σ H Q :=
  e_meth C c M (wE_mono (fun x H1 ⟨e1, e2⟩ => by
    subst e1 e2
    obtain ⟨dx, tb, hi⟩ := hR.ins
    exact ⟨o, dx, _, rfl, hi, rfl, a_cons (wE_mono (fun x H1 ⟨e1, e2⟩ => by subst e1 e2; exact a_nil (u_feed hR h1 h2 q)) hs) hst⟩) he) hk hst hpl ht
theorem e_cert (C : Kx X P w K mg base N sc k lv) (c : Cls K Cl) (M : CalM P w K mg base Cl j "certain" (sp_only K Cl)) (he : wE X oe σ H fun x H1 => x = .ref o ∧ H1 = H) (hR : RdrV K H Cl ds pss o tx L ts) (hs : wE X e σ H fun x H1 => x = .str s ∧ H1 = H) (h1 : pss.length ≤ 100) (h2 : ts.length ≤ 1000) (h3 : ds.length ≤ 4464) (q : ∀ r H', Ex H H' → OptD K H' (onlyOf pss ds ts s) r → Q r H') (hk : j ≤ k := by decide)
    (hst : starEach [e] X.env = (false, eval e X.env) :: starEach [] X.env := by rfl) (hpl : (backTo pos (starEach [] X.env)).any (·.1) = false := by rfl)
    (ht : eval (.Call (.Attribute oe "certain" apos) [e] [] pos) X.env = (do
      let ov ← eval oe X.env
      standAt apos.atName
      let (f, first) ← holding [ov] (getMethod ov "certain" pl)
      callWith pos f first (backTo pos (starEach [e] X.env)) (backToKw pos (keywordEach [] X.env))) := by rfl) :
    wE X (.Call (.Attribute oe "certain" apos) [e] [] pos) σ H Q :=
  e_meth C c M (wE_mono (fun x H1 ⟨e1, e2⟩ => by
    subst e1 e2
    obtain ⟨dx, tb, hi⟩ := hR.ins
    exact ⟨o, dx, _, rfl, hi, rfl, a_cons (wE_mono (fun x H1 ⟨e1, e2⟩ => by subst e1 e2; exact a_nil (u_only hR h1 h2 h3 q)) hs) hst⟩) he) hk hst hpl ht
/-- Reader(patterns, span) -/
theorem e_reader {e1 e2 : Expr} {p : Pos} {v u : V} {y0 y1 : Int} (C : Kx X P w K mg base N sc k lv) (R : RdC K mg Cl) (M : CalI P w K mg base Cl j (sp_init K Cl)) (h1 : wE X e1 σ H fun x H1 => x = v ∧ H1 = H) (h2 : wE X e2 σ H fun x H1 => x = u ∧ H1 = H) (hp : PtsV K H pss v) (ho : okPs pss) (hd : SpanV K H y0 y1 u) (h : isSp y0 y1 = true)
    (q : ∀ o tx L H', H o = none → H tx = none → (∀ l ∈ L, H l = none) → Ex H H' → RdrV K H' Cl (datesIn y0 y1) pss o tx L [] → Q (.ref o) H') (hk : j + 1 ≤ k := by decide) (hg : sc.names.lookup ("Reader" : Str) = some .globalImplicit := by rfl)
    (he : starEach [e1, e2] X.env = (false, eval e1 X.env) :: starEach [e2] X.env := by rfl) (he2 : starEach [e2] X.env = (false, eval e2 X.env) :: starEach [] X.env := by rfl) (hpl : (backTo pos (starEach [e2] X.env)).any (·.1) = false := by rfl) :
    wE X (.Call (.Name "Reader" p) [e1, e2] [] pos) σ H Q := by
  refine e_make C R.mgC M (a_cons (wE_mono (fun x H1 z => ?_) h1) he) hk hg (by decide) he hpl
  obtain ⟨rfl, rfl⟩ := z
  refine a_cons (wE_mono (fun x H1 z => ?_) h2) he2
  obtain ⟨rfl, rfl⟩ := z
  refine a_nil fun xo dx nxo ndx hne => ?_
  have xm : Ex H1 (upd (upd H1 dx (.own xo)) xo (.ins Cl dx [])) := Ex.trans (Ex.new ndx) (Ex.new (by rw [upd_ne hne.symm]; exact nxo))
  refine u_init upd_same (hp.tk (Tk.of xm)) ho (hd.tk (Tk.of xm)) h fun H5 tx L hb5 hR5 ntx hL => ⟨rfl, ?_⟩
  exact q xo tx L H5 nxo (Ex.back xm ntx) (fun l hl => Ex.back xm (hL l hl)) (Bt.ex hb5 xm nxo) hR5
end
/-- two readers, patterns, a span and texts -/
structure S20 (K : PySem.W.Frag) (H : Hp) (Cl : Addr) (pss : List (List Str)) (y : Int) (pt sp tx0 : Addr) (ts : List Str) (o1 tx1 : Addr) (L1 : List Addr) (ts1 : List Str) (o2 tx2 : Addr) (L2 : List Addr) (ts2 : List Str) : Prop where
  pts : PtsV K H pss (.ref pt)
  span : SpanV K H y y (.ref sp)
  txt : H tx0 = some (.lst (ts.map V.str))
  r1 : RdrV K H Cl (datesIn y y) pss o1 tx1 L1 ts1
  r2 : RdrV K H Cl (datesIn y y) pss o2 tx2 L2 ts2
  d01 : tx0 ≠ tx1
  d02 : tx0 ≠ tx2
  d12 : tx1 ≠ tx2
  n12 : tx1 ∉ L2
  n21 : tx2 ∉ L1
section
variable {K : PySem.W.Frag} {H H' : Hp} {Cl pt sp tx0 o1 tx1 o2 tx2 : Addr} {pss : List (List Str)} {y : Int} {L1 L2 : List Addr} {ts ts1 ts2 ts' : List Str}
theorem S20.ex (e : Ex H H') (h : S20 K H Cl pss y pt sp tx0 ts o1 tx1 L1 ts1 o2 tx2 L2 ts2) : S20 K H' Cl pss y pt sp tx0 ts o1 tx1 L1 ts1 o2 tx2 L2 ts2 :=
  ⟨h.pts.tk (Tk.of e), h.span.tk (Tk.of e), e _ _ h.txt, h.r1.keep e, h.r2.keep e, h.d01, h.d02, h.d12, h.n12, h.n21⟩
theorem S20.feed1 (b : Bt tx1 H H') (r : RdrV K H' Cl (datesIn y y) pss o1 tx1 L1 ts') (h : S20 K H Cl pss y pt sp tx0 ts o1 tx1 L1 ts1 o2 tx2 L2 ts2) : S20 K H' Cl pss y pt sp tx0 ts o1 tx1 L1 ts' o2 tx2 L2 ts2 :=
  ⟨h.pts.tk (Tk.bt b h.r1.txs), h.span.tk (Tk.bt b h.r1.txs), b _ _ h.d01 h.txt, r, h.r2.bt b h.r1.txs h.n12 h.d12, h.d01, h.d02, h.d12, h.n12, h.n21⟩
theorem S20.feed2 (b : Bt tx2 H H') (r : RdrV K H' Cl (datesIn y y) pss o2 tx2 L2 ts') (h : S20 K H Cl pss y pt sp tx0 ts o1 tx1 L1 ts1 o2 tx2 L2 ts2) : S20 K H' Cl pss y pt sp tx0 ts o1 tx1 L1 ts1 o2 tx2 L2 ts' :=
  ⟨h.pts.tk (Tk.bt b h.r2.txs), h.span.tk (Tk.bt b h.r2.txs), b _ _ h.d02 h.txt, h.r1.bt b h.r2.txs h.n21 h.d12.symm, r, h.d01, h.d02, h.d12, h.n12, h.n21⟩
end
/-! ### texts are texts -/
theorem strOk_iff {x : Str} : PyData.strOk x = true ↔ ∀ c ∈ cs x, c < 1114112 := by
  unfold PyData.strOk
  rw [← Array.all_toList, List.all_eq_true]
  simp
theorem pc_codes {p : Str} {d : Dt} (h : okD d) (hp : p ∈ fields ∨ p ∈ lits) : ∀ c ∈ cs (pc p d), c < 1114112 := by
  rcases pc_kind h hp with hk | ⟨n, k, h0, _, e⟩
  · have hall : ∀ x ∈ monNames ++ wdNames ++ lits, PyData.strOk x = true := by decide +kernel
    refine strOk_iff.mp (hall _ ?_)
    rcases hk with hk | hk | hk
    · exact List.mem_append_left _ (List.mem_append_left _ hk)
    · exact List.mem_append_left _ (List.mem_append_right _ hk)
    · exact List.mem_append_right _ hk
  · intro c hc
    rw [e] at hc
    have := pad_codes h0 hc
    omega
theorem wr_ok {ps : List Str} {d : Dt} (h : okD d) (hp : ∀ p ∈ ps, p ∈ fields ∨ p ∈ lits) : PyData.strOk (wr ps d) = true := by
  refine strOk_iff.mpr fun c hc => ?_
  rw [show cs (wr ps d) = ps.flatMap fun p => (pc p d).cps.toList from wr_list ps d] at hc
  obtain ⟨p, hp1, hp2⟩ := List.mem_flatMap.mp hc
  exact pc_codes h (hp p hp1) c hp2
end DP
set_option Elab.async false
set_option linter.all false
set_option maxRecDepth 100000
set_option maxHeartbeats 1000000
namespace DP
open PySem L2
/-- lists of readings, made one by one -/
structure FoundI (K : PySem.W.Frag) (H3 : Hp) (F : Nat → List Dt) (is : List Nat) (D : Addr) (m : Nat) (Hm : Hp) : Prop where
  ex : ∃ as ls, Hm D = some (.lst (as.map V.ref)) ∧ as.length = m ∧ Paired (fun q xs => Hm q = some (.lst xs)) as ls ∧ Paired (fun i xs => DatesV K Hm (F i) xs) (is.take m) ls ∧ D ∉ as
  bt : Bt D H3 Hm
section
variable {K : PySem.W.Frag} {H3 Hm H5 : Hp} {F : Nat → List Dt} {is : List Nat} {D p : Addr} {m i : Nat} {xs : List V}
theorem FoundI.start (nD : H3 D = none) : FoundI K H3 F is D 0 (upd H3 D (.lst [])) := ⟨⟨[], [], upd_same, rfl, .nil, by rw [List.take_zero]; exact .nil, by simp⟩, fun b o h e => by rw [upd_ne h]; exact e⟩
theorem FoundI.step (h : FoundI K H3 F is D m Hm) (hi : is[m]? = some i) (hm : m ≤ 1000) (np : Hm p = none) (x : Ex Hm H5) (hp : H5 p = some (.lst xs)) (hd : DatesV K H5 (F i) xs) :
    ∃ acc, H5 D = some (.lst acc) ∧ acc.length < sizeLine ∧ FoundI K H3 F is D (m + 1) (upd H5 D (.lst (acc ++ [.ref p]))) := by
  obtain ⟨as, ls, hD, hl, hp1, hp2, hDa⟩ := h.ex
  have hpD : p ≠ D := fun z => by rw [z, hD] at np; cases np
  have hD5 := x _ _ hD
  refine ⟨_, hD5, sz5' (by rw [List.length_map]; omega), ⟨as ++ [p], ls ++ [xs], by rw [upd_same, List.map_append]; rfl, by simp [hl], ?_, ?_, ?_⟩, fun b o h1 e => by rw [upd_ne h1]; exact x _ _ (h.bt _ _ h1 e)⟩
  · refine paired_app ?_ (.cons (by rw [upd_ne hpD]; exact hp) .nil)
    have : ∀ {as : List Addr} {ls : List (List V)}, D ∉ as → Paired (fun q xs => Hm q = some (.lst xs)) as ls → Paired (fun q xs => upd H5 D (.lst (as.map V.ref ++ [.ref p])) q = some (.lst xs)) as ls := by
      intro as ls hn hp
      have : ∀ {o : HO} {as : List Addr} {ls : List (List V)}, D ∉ as → Paired (fun q xs => Hm q = some (.lst xs)) as ls → Paired (fun q xs => upd H5 D o q = some (.lst xs)) as ls := by
        intro o as ls hn hp
        induction hp with
        | nil => exact .nil
        | cons h1 h2 ih =>
          rw [List.mem_cons, not_or] at hn
          exact .cons (by rw [upd_ne (Ne.symm hn.1)]; exact x _ _ h1) (ih hn.2)
      exact this hn hp
    exact this hDa hp1
  · rw [List.take_add_one, hi]
    have tk : Tk Hm (upd H5 D (.lst (as.map V.ref ++ [.ref p]))) := (Tk.of x).trans (Tk.lst hD5)
    exact paired_app (Paired.mapP hp2 fun _ _ z => z.tk tk) (.cons (hd.tk (Tk.lst hD5)) .nil)
  · rw [List.mem_append, not_or]
    exact ⟨hDa, fun z => hpD (List.mem_singleton.mp z).symm⟩
theorem FoundI.done (h : FoundI K H3 F is D m Hm) (nD : H3 D = none) (hm : m = is.length) : Ex H3 Hm ∧ ∃ as ls, Hm D = some (.lst (as.map V.ref)) ∧ Paired (fun q xs => Hm q = some (.lst xs)) as ls ∧ DatesV K Hm (is.flatMap F) ls.flatten := by
  obtain ⟨as, ls, hD, hl, hp1, hp2, hDa⟩ := h.ex
  refine ⟨fun a o e => h.bt a o (fun z => by rw [z, nD] at e; cases e) e, as, ls, hD, hp1, ?_⟩
  rw [hm, List.take_length] at hp2
  have : ∀ {is : List Nat} {ls : List (List V)}, Paired (fun i xs => DatesV K Hm (F i) xs) is ls → DatesV K Hm (is.flatMap F) ls.flatten := by
    intro is ls hp
    induction hp with
    | nil => exact .nil
    | cons h1 h2 ih => rw [List.flatMap_cons, List.flatten_cons]; exact paired_app h1 ih
  exact this hp2
end
theorem found_len (pss : List (List Str)) (ds : List Dt) (is : List Nat) (t : Str) : (foundOf pss ds is t).length ≤ is.length * ds.length := flatMap_len (fun _ => List.length_filter_le _ _) is
end DP
set_option Elab.async false
set_option linter.all false
set_option maxRecDepth 100000
set_option maxHeartbeats 3200000
namespace DP
open PySem PySem.Spec PyProof.Rows L2
/-! ### set(list) -/
section
variable {P : Program} {w : World} {A : Around} {E : Value → Shared → Prop} {s : Shared}
/-- a set just made -/
abbrev set0 (w : World) : Obj := { cls := .type "set", dict := none, data := .set #[] 0 (.fresh 0 0 (!w.params.followText "set-order")) }
abbrev itL (l : Addr) : Obj := { cls := .type "list_iterator", data := .fields #[.ref l, .int 0 0] }
/-- set(l): whatever the loop over l does -/
theorem call_setL {l : Addr} {items : Array Value} {Q : Value → Shared → Prop} (Good : Heap → Prop) (hl : s.heap.IsList l items)
    (loop : ∀ R : Result → Shared → Prop, (∀ h' tk, (∀ b o, s.heap.get? b = some o → h'.get? b = some o) → Good h' → R (.ok (.ret .none)) { s with heap := h', toks := tk }) →
      codeAny (model P w) A.in1.in1 (.builtin "set.update.loop" ⟨[.ref s.heap.objs.size, .ref (s.heap.push (set0 w)).objs.size], []⟩) R { s with heap := (s.heap.push (set0 w)).push (itL l) })
    (h : ∀ h' tk, (∀ b o, s.heap.get? b = some o → h'.get? b = some o) → Good h' → Q (.ref s.heap.objs.size) { s with heap := h', toks := tk }) : wpAny (model P w) A (call (.type "set") [.ref l]) Q E s := by
  obtain ⟨cq, tl, hmro⟩ := F.called_set.mro; have hmade := F.called_set.made; have hsub := F.called_set.sub
  refine wpAny_call (codeAny_of_tree ?_); show wpAny _ _ (callAny (.type "set") _) _ _ _
  refine wpAny_pure ⟨Code.quiet_builtin _ (by decide +kernel), codeAny_builtin F.entry_type_call ?_⟩; rw [Around.under_plain (weight_type_call_type "set" [.ref l] []) rfl]
  have h1 := F.called_set.notType; have h2 := F.called_set.canCreate; have hct := F.typeCall_set_1 (.ref l)
  repeat (any_goals (first | assumption | wp_step))

  refine codeAny_mono (code_set_led1 (.ref l) (E := E) (Q₁ := fun obj s₁ => obj = .ref s.heap.objs.size ∧ s₁ = { s with heap := s.heap.push (set0 w) }) ⟨rfl, rfl⟩) fun r s₁ hr => ?_
  cases r with
  | error e => exact hr
  | ok fl =>
    cases fl with
    | ret obj =>
      obtain ⟨rfl, rfl⟩ := hr
      have hS : (s.heap.push (set0 w)).get? s.heap.objs.size = some (set0 w) := Heap.get?_push_size _ rfl
      have hT : Shared.TypeIs { s with heap := s.heap.push (set0 w) } (.ref s.heap.objs.size) "set" := ⟨_, hS, rfl⟩
      have hli := F.called_set.init.lookup; have hbi := F.called_set.init.bind (.ref s.heap.objs.size)
      repeat (any_goals (first | assumption | wp_step))

      refine codeAny_mono (codeAny_call_builtin (R := wants (fun r s₂ => r = .none ∧ ∃ h' tk, s₂ = { s with heap := h', toks := tk } ∧ (∀ b o, s.heap.get? b = some o → h'.get? b = some o) ∧ Good h') E) F.called_set.init.plain F.entry_set_init (check_set_init_1 hT ?_)) fun r₂ s₂ hr₂ => ?_
      · obtain ⟨⟨ocls, odict, odata, oslots⟩, hol, hcl, nl, hdl⟩ := hl
        simp only at hcl hdl
        subst hcl hdl
        have hol' : (s.heap.push (set0 w)).get? l = some { cls := .type "list", dict := odict, data := .seq items nl, slots := oslots } := Heap.get?_push_of_some _ hol
        have hsls := F.sub_list_set; have hslf := F.sub_list_frozenset
        have hne : (Value.type "list" == Value.type "dict") = false := by decide
        have hl1 : (s.heap.push (set0 w)).IsList l items := ⟨_, hol', rfl, nl, rfl⟩
        unfold Builtin.«set.__init__» noKeywords Builtin.Frozenset.updateFrom; generalize hPI : pyIter = PI
        wp_walk
        subst hPI
        refine wpAny_pyIter_list hl1 ?_; refine wpAny_bind (wpAny_runValue ?_)
        refine loop _ fun h' tk hk hg => ?_
        show wpAny _ _ _ _ _ _
        refine wpAny_pure ?_; show wpAny _ _ (ret Value.none) _ _ _
        exact wpAny_pure ⟨rfl, h', tk, rfl, hk, hg⟩
      · cases r₂ with
        | error e => exact hr₂
        | ok fl₂ =>
          cases fl₂ with
          | ret r =>
            obtain ⟨rfl, h', tk, rfl, hk', hg'⟩ := hr₂
            repeat (any_goals (first | assumption | wp_step))
            exact h _ _ hk' hg'
          | _ => exact hr₂.elim
    | _ => exact hr.elim
end
end DP
set_option Elab.async false
set_option linter.all false
set_option maxRecDepth 100000
set_option maxHeartbeats 1000000
namespace DP
open PySem L2 PyProof.Rows PySem.Spec
section
variable {P : Program} {w : World} {A : Around}
def inK (ks : List Key) (k : Key) : Bool := ks.any fun j => decide (j = k)
theorem inK_iff {ks : List Key} {k : Key} : inK ks k = true ↔ k ∈ ks := by
  unfold inK
  rw [List.any_eq_true]
  exact ⟨fun ⟨j, h1, h2⟩ => of_decide_eq_true h2 ▸ h1, fun h => ⟨k, h, decide_eq_true rfl⟩⟩
theorem mix_is {k : Key} {v : Value} (r : RelV (kV k) v) : (mixKind P w).is k v = true := by
  cases k with
  | inl i => obtain ⟨t, rfl⟩ := r; exact mixKind_int _ _ _ _
  | inr x => obtain ⟨t, rfl⟩ := r; exact mixKind_str _ _ _ _
/-- the loop over texts -/
theorem setT_loop {I S : Addr} {fp wr : List Addr} {n : Nat} {Pv : Nat → Value → Prop} {St : Nat → Heap → Prop} {R : Result → Shared → Prop} (W : Walks P w A.in1 I fp wr n Pv St) (hSf : S ∉ fp) (s0 : Shared) (ks : List Key) (hn : n = ks.length) (hb : ks.length + 1 < scanBound)
    (hval : ∀ i v, Pv i v → ∃ k, ks[i]? = some k ∧ RelV (kV k) v)
    (hR : ∀ h' tk c, (∀ b o, b ∉ wr → b ≠ S → s0.heap.get? b = some o → h'.get? b = some o) → h'.SetOf (mixKind P w) S (inK ks) c → c ≤ n → (c = n ↔ ks.Nodup) → R (.ok (.ret .none)) { s0 with heap := h', toks := tk }) :
    ∀ (k i : Nat) (h : Heap) (tk c : Nat), n - i = k → i ≤ n → St i h → (∀ b o, b ∉ wr → b ≠ S → s0.heap.get? b = some o → h.get? b = some o) → h.SetOf (mixKind P w) S (inK (ks.take i)) c → c ≤ i → (c = i ↔ (ks.take i).Nodup) →
      codeAny (model P w) A (.builtin "set.update.loop" ⟨[.ref S, .ref I], []⟩) R { s0 with heap := h, toks := tk } := by
  have hSw : S ∉ wr := fun h => hSf (W.sub _ h)
  intro k
  induction k with
  | zero =>
    intro i h tk c hk hi hst hkeep hS hc hnd
    obtain rfl : i = n := by omega
    refine codeAny_builtin F.entry_set_update_loop ?_; rw [Around.under_plainId F.plain_set_update_loop _]
    show wpAny _ A.in1 (pyNext (.ref I) >>= _) _ _ ({ s0 with heap := h, toks := tk } : Shared)
    refine wpAny_bind (W.done _ _ _ hst fun h' tk' hk' => ?_); show wpAny _ A.in1 (ret Value.none) _ _ _
    have e : ks.take i = ks := List.take_of_length_le (by omega)
    rw [e] at hS hnd
    exact wpAny_pure (hR h' tk' c (fun b o h1 h2 q => hk' b o h1 (hkeep b o h1 h2 q)) (setOf_at hS fun o q => hk' S o hSw q) hc hnd)
  | succ k ih =>
    intro i h tk c hk hi hst hkeep hS hc hnd
    have hlt : i < n := by omega
    refine codeAny_builtin F.entry_set_update_loop ?_; rw [Around.under_plainId F.plain_set_update_loop _]
    show wpAny _ A.in1 (pyNext (.ref I) >>= _) _ _ ({ s0 with heap := h, toks := tk } : Shared)
    refine wpAny_bind (W.item i _ _ _ hlt hst fun v h' tk' hP hst' hk' => ?_)
    obtain ⟨z, hz, rz⟩ := hval i v hP
    have hS' : h'.SetOf (mixKind P w) S (inK (ks.take i)) c := setOf_at hS fun o q => hk' S o hSw q
    have hkey : (mixKind P w).is z v = true := mix_is rz
    have htk : ks.take (i + 1) = ks.take i ++ [z] := by rw [List.take_add_one, hz]; rfl
    show wpAny _ A.in1 (holding [v] (setAdd S v) >>= _) _ _ _
    refine wpAny_bind (wpAny_holding ?_); unfold setAdd
    refine wpAny_holding (wpAny_bind ((mixKind P w).pyHash (k := z) hkey ?_))
    refine wpAny_setAddHashed_of hkey (key_scan rz) hS' (by omega) fun h2 hsb hS2 => ?_
    have hother : ∀ b o, b ≠ S → h'.get? b = some o → h2.get? b = some o := fun b o hb q => by rw [hsb.2 b hb]; exact q
    refine wpAny_pure ⟨plainId_quiet F.plain_set_update_loop _, ?_⟩
    refine ih (i + 1) h2 _ (if inK (ks.take i) z = true then c else c + 1) (by omega) hlt (W.frame _ _ _ hst' fun b hb o q => hother b o (fun e => hSf (e ▸ hb)) q) (fun b o h1 h2 q => hother b o h2 (hk' b o h1 (hkeep b o h1 h2 q))) ?_ ?_ ?_
    · have e : (fun k' => inK (ks.take i) k' || decide (k' = z)) = inK (ks.take (i + 1)) := by
        funext k'
        rw [htk, Bool.eq_iff_iff, Bool.or_eq_true, inK_iff, inK_iff, List.mem_append, List.mem_singleton, decide_eq_true_eq]
      rw [← e]
      exact hS2
    · split <;> omega
    · rw [htk, List.nodup_append]
      by_cases hm : z ∈ ks.take i
      · rw [if_pos (inK_iff.mpr hm)]
        constructor
        · intro q; omega
        · rintro ⟨_, _, q⟩
          exact absurd rfl (q z hm z (by simp))
      · rw [if_neg (fun q => hm (inK_iff.mp q))]
        constructor
        · intro q
          refine ⟨hnd.mp (by omega), by simp, fun a ha b hb e => ?_⟩
          rw [List.mem_singleton.mp hb] at e
          exact hm (e ▸ ha)
        · rintro ⟨q, _, _⟩
          have := hnd.mpr q
          omega
end
theorem setOf_new {P : Program} {w : World} {h : Heap} {a : Addr} {ks : List Key} (ho : h.get? a = some (set0 w)) : h.SetOf (mixKind P w) a (inK (ks.take 0)) 0 := by
  refine ⟨_, #[], 0, _, ho, ⟨rfl, rfl, rfl⟩, rfl, fun e he => ?_, fun k => ?_, by decide, by rfl, rfl⟩
  · simp at he
  · rw [inK_iff]; simp
section
variable {X : Cx} {P : Program} {w : World} {K : PySem.W.Frag} {mg : Str → Option Value} {base : Heap} {N : List Str} {sc : Scope} {k : Nat} {lv : Bool}
variable {H : Hp} {Q : VK} {a : Addr}
/-- set(texts) -/
theorem c_setS (C : Kx X P w K mg base N sc k lv) {ts : List Str} (hq : SqL K H a (ts.map V.str)) (hl : ts.length ≤ 4000) (h : ∀ p S n, H p = none → n ≤ ts.length → (n = ts.length ↔ ts.Nodup) → Q (.ref p) (upd H p (SetK P w p S n))) : wC X (.type "set") [.ref a] H Q := by
  have e1 := C.eprog; have e2 := C.ew; have e3 := C.eK
  subst e1 e2 e3
  refine ⟨fun pins s σ us I rv => ?_⟩
  obtain ⟨its, r, pl, hsz⟩ := I.list hq
  rw [Vals.ref1 rv]
  have hln : its.length = ts.length := by rw [← r.length, List.length_map]
  have hlt : a < s.heap.objs.size := by obtain ⟨_, e, _⟩ := pl.isList; exact Heap.lt_size e
  have hps : (s.heap.push (set0 X.w)).objs.size = s.heap.objs.size + 1 := by simp [Heap.push]
  have hne : a ≠ (s.heap.push (set0 X.w)).objs.size := by rw [hps]; exact Nat.ne_of_lt (Nat.lt_succ_of_lt hlt)
  have hh2 : X.A.in1.in1.in1.handled = none := by simp [I.ok.hd C.calm]
  refine call_setL (Good := fun h' => ∃ c, h'.SetOf (mixKind X.prog X.w) s.heap.objs.size (inK (ts.map (Sum.inr : Str → Key))) c ∧ c ≤ ts.length ∧ (c = ts.length ↔ ts.Nodup)) pl.isList (fun R hR => ?_) fun h' tk hk ⟨c, hS, hc, hnd⟩ => ?_
  · have W := Walks.list (prog := X.prog) (w := X.w) (A := X.A.in1.in1.in1) hh2 (s.heap.push (set0 X.w)).objs.size a hne its.toArray
    refine setT_loop (ks := ts.map (Sum.inr : Str → Key)) W (fun hm => ?_) s (by rw [List.size_toArray, List.length_map, hln]) (by rw [List.length_map]; unfold scanBound; omega) (fun i v hv => ?_) (fun h' tk c hk hS hc hnd => ?_) _ 0 _ _ 0 rfl (Nat.zero_le _) ⟨⟨_, Heap.get?_push_size _ rfl, rfl, rfl⟩, (pl.isList.push _).push _⟩ (fun b o _ _ q => Heap.get?_push_of_some _ (Heap.get?_push_of_some _ q)) (setOf_new (Heap.get?_push_of_some _ (Heap.get?_push_size _ rfl))) (Nat.le_refl _) ?_
    · simp only [List.mem_cons, List.not_mem_nil, or_false] at hm
      rcases hm with hm | hm
      · rw [hps] at hm; exact Nat.ne_of_lt (Nat.lt_succ_self _) hm
      · exact Nat.ne_of_gt hlt hm
    · have hv : its[i]? = some v := by simpa using hv
      have hil : i < ts.length := by rw [← hln]; exact (List.getElem?_eq_some_iff.mp hv).1
      refine ⟨Sum.inr ts[i], by rw [List.getElem?_map, List.getElem?_eq_getElem hil]; rfl, ?_⟩
      obtain ⟨u, ew, ru⟩ := r.get (i := i) (by rw [List.getElem?_map, List.getElem?_eq_getElem hil]; rfl)
      rw [hv] at ew; cases ew
      exact ru
    · rw [List.size_toArray, hln] at hc hnd
      refine hR h' tk (fun b o q => hk b o ?_ ?_ q) ⟨c, hS, hc, hnd.trans ?_⟩
      · intro hm; rw [List.mem_singleton.mp hm, hps] at q; exact absurd (Heap.lt_size q) (Nat.not_lt_of_gt (Nat.lt_succ_self _))
      · exact Nat.ne_of_lt (Heap.lt_size q)
      · refine ⟨fun z => ?_, fun z => List.Pairwise.map _ (fun a b (h : a ≠ b) e => h (Sum.inr.inj e)) z⟩
        exact List.Pairwise.of_map _ (fun a b h e => h (by rw [e])) z
    · simp
  · exact ⟨.ref _, upd H s.heap.objs.size (SetK X.prog X.w s.heap.objs.size _ c), I.laid (t' := tk) hk (Nat.le_refl _) (setK_new hS), rfl, h _ _ c I.fresh hc hnd⟩
/-- len(set) -/
theorem c_lenSet (C : Kx X P w K mg base N sc k lv) {S : Key → Bool} {n : Nat} (hS : H a = some (SetK P w a S n)) (h : Q (nI n) H) : wC X (.builtin "len") [.ref a] H Q := by
  have e1 := C.eprog; have e2 := C.ew
  subst e1 e2
  refine ⟨fun pins s σ us I rv => ?_⟩
  rw [Vals.ref1 rv]
  obtain ⟨o, es, ep, t, ho, hex, hd, hel, hmem, hb, hf, hn⟩ := setK_get I hS
  have hb' : es.size < 4096 := hb
  refine call_len_set ho hex hd hf (by omega) ?_
  exact ⟨nI n, H, I.tok _, ⟨_, by rw [hn]⟩, h⟩
/-- set(ints) -/
theorem c_setI (C : Kx X P w K mg base N sc k lv) {ns : List Int} (hq : SqL K H a (ns.map V.int)) (hl : ns.length ≤ 4000) (h : ∀ p n, H p = none → n ≤ ns.length → Q (.ref p) (upd H p (SetO w p (fun j => decide (j ∈ ns)) n))) : wC X (.type "set") [.ref a] H Q := by
  have e1 := C.eprog; have e2 := C.ew; have e3 := C.eK
  subst e1 e2 e3
  refine ⟨fun pins s σ us I rv => ?_⟩
  obtain ⟨its, r, pl, hsz⟩ := I.list hq
  rw [Vals.ref1 rv]
  have hit := Vals.ints r
  have hln : its.length = ns.length := by rw [← r.length, List.length_map]
  have hlt : a < s.heap.objs.size := by obtain ⟨_, e, _⟩ := pl.isList; exact Heap.lt_size e
  have hps : (s.heap.push (set0 X.w)).objs.size = s.heap.objs.size + 1 := by simp [Heap.push]
  have hne : a ≠ (s.heap.push (set0 X.w)).objs.size := by rw [hps]; exact Nat.ne_of_lt (Nat.lt_succ_of_lt hlt)
  have hh2 : X.A.in1.in1.in1.handled = none := by simp [I.ok.hd C.calm]
  refine call_setL (Good := fun h' => ∃ c, SetR X.w h' s.heap.objs.size (fun j => decide (j ∈ ns)) c ∧ c ≤ ns.length) pl.isList (fun R hR => ?_) fun h' tk hk ⟨c, hS, hc⟩ => ?_
  · have W := (Walks.list (prog := X.prog) (w := X.w) (A := X.A.in1.in1.in1) hh2 (s.heap.push (set0 X.w)).objs.size a hne its.toArray).toS
    refine set_update_ints W s.heap.objs.size (fun hm => ?_) ns (by rw [List.size_toArray, hln]) (by unfold scanBound; omega) (fun i v hv => ?_) _ 0 _ rfl (Nat.zero_le _) ⟨⟨_, Heap.get?_push_size _ rfl, rfl, rfl⟩, (pl.isList.push _).push _⟩ ⟨0, Nat.le_refl _, setR_new_at (Heap.get?_push_of_some _ (Heap.get?_push_size _ rfl))⟩ fun s' c hm hc hS => ?_
    · simp only [List.mem_cons, List.not_mem_nil, or_false] at hm
      rcases hm with hm | hm
      · rw [hps] at hm; exact Nat.ne_of_lt (Nat.lt_succ_self _) hm
      · exact Nat.ne_of_gt hlt hm
    · have hv : its[i]? = some v := by simpa using hv
      have hil : i < ns.length := by rw [← hln]; exact (List.getElem?_eq_some_iff.mp hv).1
      obtain ⟨u, ew, ru⟩ := r.get (i := i) (x := .int ns[i]) (by rw [List.getElem?_map, List.getElem?_eq_getElem hil]; rfl)
      rw [hv] at ew; cases ew
      obtain ⟨t, e⟩ := ru
      exact ⟨ns[i], t, List.getElem?_eq_getElem hil, e⟩
    · obtain ⟨h', g2, d', tk', os'⟩ := s'
      obtain rfl : g2 = s.gens := hm.gens
      obtain rfl : d' = s.drawn := hm.drawn
      obtain rfl : os' = s.os := hm.os
      rw [List.size_toArray, hln] at hc
      refine hR h' tk' (fun b o q => hm.heap b o (fun z => ?_) (Heap.get?_push_of_some _ (Heap.get?_push_of_some _ q))) ⟨c, hS, hc⟩
      have hb0 : b < s.heap.objs.size := Heap.lt_size q
      simp only [List.mem_cons, List.not_mem_nil, or_false] at z
      rcases z with z | z
      · exact Nat.ne_of_lt hb0 z
      · rw [hps] at z; exact Nat.ne_of_lt (Nat.lt_succ_of_lt hb0) z
  · exact ⟨.ref _, upd H s.heap.objs.size (SetO X.w s.heap.objs.size _ c), I.laid (t' := tk) hk (Nat.le_refl _) (setO_new hS), rfl, h _ c I.fresh hc⟩
/-- sorted(set) -/
theorem c_sortSet (C : Kx X P w K mg base N sc k lv) {S : Int → Bool} {n : Nat} (hS : H a = some (SetO w a S n)) (hl : n < 64) (h : ∀ (ns : List Int) p, ns.Pairwise (· < ·) → (∀ k : Int, k ∈ ns ↔ S k = true) → H p = none → Q (.ref p) (upd H p (.lst (ns.map V.int)))) : wC X (.builtin "sorted") [.ref a] H Q := by
  have e2 := C.ew
  subst e2
  exact goC (cr_sortedSet C.calm) ⟨a, S, n, rfl, hS, hl, fun ns p h1 h2 _ h4 => h ns p h1 h2 h4⟩
end
end DP
set_option Elab.async false
set_option linter.all false
set_option maxRecDepth 100000
set_option maxHeartbeats 1000000
namespace DP
open PySem L2
/-! ### ascending lists -/
theorem asc_ext {α : Type} {R : α → α → Prop} (hi : ∀ a, ¬ R a a) (ht : ∀ a b c, R a b → R b c → R a c) : ∀ {l m : List α}, l.Pairwise R → m.Pairwise R → (∀ x, x ∈ l ↔ x ∈ m) → l = m
  | [], [], _, _, _ => rfl
  | [], y :: m, _, _, h => absurd ((h y).mpr List.mem_cons_self) (by simp)
  | x :: l, [], _, _, h => absurd ((h x).mp List.mem_cons_self) (by simp)
  | x :: l, y :: m, h1, h2, h => by
    obtain ⟨a1, a2⟩ := List.pairwise_cons.mp h1
    obtain ⟨b1, b2⟩ := List.pairwise_cons.mp h2
    have e : x = y := by
      rcases List.mem_cons.mp ((h x).mp List.mem_cons_self) with e | hx
      · exact e
      · rcases List.mem_cons.mp ((h y).mpr List.mem_cons_self) with e | hy
        · exact e.symm
        · exact absurd (ht _ _ _ (a1 y hy) (b1 x hx)) (hi x)
    subst e
    refine congrArg (x :: ·) (asc_ext hi ht a2 b2 fun z => ⟨fun hz => ?_, fun hz => ?_⟩)
    · rcases List.mem_cons.mp ((h z).mp (List.mem_cons_of_mem _ hz)) with e | hz'
      · exact absurd (e ▸ a1 z hz) (hi x)
      · exact hz'
    · rcases List.mem_cons.mp ((h z).mpr (List.mem_cons_of_mem _ hz)) with e | hz'
      · exact absurd (e ▸ b1 z hz) (hi x)
      · exact hz'
theorem ascI {l m : List Int} (h1 : l.Pairwise (· < ·)) (h2 : m.Pairwise (· < ·)) (h : ∀ x, x ∈ l ↔ x ∈ m) : l = m := asc_ext (R := (· < ·)) (fun a => Int.lt_irrefl a) (fun a b c h1 h2 => Int.lt_trans h1 h2) h1 h2 h
theorem ascN {l m : List Nat} (h1 : l.Pairwise (· < ·)) (h2 : m.Pairwise (· < ·)) (h : ∀ x, x ∈ l ↔ x ∈ m) : l = m := asc_ext (R := (· < ·)) (fun a => Nat.lt_irrefl a) (fun a b c h1 h2 => Nat.lt_trans h1 h2) h1 h2 h
/-! ### choices, all of them -/
theorem chs_iff {many : Nat} : ∀ {s st : Nat} {l : List Nat}, l ∈ chs many s st ↔ l.length = s ∧ l.Pairwise (· < ·) ∧ ∀ x ∈ l, st ≤ x ∧ x < many
  | 0, st, l => by
    show l ∈ [[]] ↔ _
    rw [List.mem_singleton]
    constructor
    · rintro rfl; simp
    · rintro ⟨h, _⟩; exact List.length_eq_zero_iff.mp h
  | s + 1, st, l => by
    show l ∈ (List.range' st (many - st)).flatMap (fun first => (chs many s (first + 1)).map (first :: ·)) ↔ _
    rw [List.mem_flatMap]
    constructor
    · rintro ⟨x, hx, hl⟩
      obtain ⟨r, hr, rfl⟩ := List.mem_map.mp hl
      obtain ⟨h1, h2, h3⟩ := chs_iff.mp hr
      have hx := List.mem_range'_1.mp hx
      refine ⟨by simp [h1], List.pairwise_cons.mpr ⟨fun y hy => by have := h3 y hy; omega, h2⟩, fun y hy => ?_⟩
      rcases List.mem_cons.mp hy with rfl | hy
      · omega
      · have := h3 y hy; omega
    · rintro ⟨h1, h2, h3⟩
      cases l with
      | nil => simp at h1
      | cons x r =>
        obtain ⟨a1, a2⟩ := List.pairwise_cons.mp h2
        have hx := h3 x List.mem_cons_self
        refine ⟨x, List.mem_range'_1.mpr (by omega), List.mem_map.mpr ⟨r, chs_iff.mpr ⟨by simpa using h1, a2, fun y hy => ⟨a1 y hy, (h3 y (List.mem_cons_of_mem _ hy)).2⟩⟩, rfl⟩⟩
def ascB (g : Nat) (l : List Nat) : Prop := l.Pairwise (· < ·) ∧ ∀ x ∈ l, x < g
theorem barL_iff {g : Nat} {l : List Nat} : l ∈ barL g ↔ ascB g l ∧ l.length < g := by
  unfold barL
  rw [List.mem_flatMap]
  constructor
  · rintro ⟨s, hs, hl⟩
    obtain ⟨h1, h2, h3⟩ := chs_iff.mp hl
    exact ⟨⟨h2, fun x hx => (h3 x hx).2⟩, by rw [h1]; exact List.mem_range.mp hs⟩
  · rintro ⟨⟨h2, h3⟩, h1⟩
    exact ⟨l.length, List.mem_range.mpr h1, chs_iff.mpr ⟨rfl, h2, fun x hx => ⟨Nat.zero_le _, h3 x hx⟩⟩⟩
theorem barL_len (g : Nat) : (barL g).Pairwise (fun a b => a.length ≤ b.length) := by
  unfold barL
  rw [List.pairwise_flatMap]
  refine ⟨fun s _ => ?_, ?_⟩
  · refine List.pairwise_of_forall_mem_list fun a ha b hb => ?_
    rw [chs_mem ha, chs_mem hb]
    exact Nat.le_refl _
  · refine List.Pairwise.imp (fun {s u} (h : s < u) a ha b hb => ?_) List.pairwise_lt_range
    rw [chs_mem ha, chs_mem hb]
    omega
/-- what bars finds: it separates, and nothing shorter does -/
theorem bars_some {ps : List Str} {ds : List Dt} {g : List Nat} (h : barsOf ps ds = some g) : okB ps ds (List.range (ps.length - 1)) = true ∧ okB ps ds g = true ∧ ascB (ps.length - 1) g ∧ ∀ l, ascB (ps.length - 1) l → l.length < g.length → okB ps ds l = false := by
  unfold barsOf at h
  split at h
  · rename_i hok
    refine ⟨hok, ?_⟩
    cases hf : (barL (ps.length - 1)).find? (okB ps ds) with
    | none =>
      rw [hf] at h
      have h : List.range (ps.length - 1) = g := Option.some.inj h
      subst h
      refine ⟨hok, ⟨List.pairwise_lt_range, fun x hx => List.mem_range.mp hx⟩, fun l hl hlen => ?_⟩
      rw [List.length_range] at hlen
      exact Bool.eq_false_iff.mpr (List.find?_eq_none.mp hf l (barL_iff.mpr ⟨hl, hlen⟩))
    | some l0 =>
      rw [hf] at h
      have h : l0 = g := Option.some.inj h
      subst h
      have hm := List.mem_of_find?_eq_some hf
      obtain ⟨ha, hlt⟩ := barL_iff.mp hm
      refine ⟨List.find?_some hf, ha, fun l hl hlen => ?_⟩
      obtain ⟨_, as, bs, hab, hno⟩ := List.find?_eq_some_iff_append.mp hf
      have hl' : l ∈ barL (ps.length - 1) := barL_iff.mpr ⟨hl, by omega⟩
      rw [hab] at hl'
      rcases List.mem_append.mp hl' with hl' | hl'
      · simpa using hno l hl'
      · have hp := barL_len (ps.length - 1)
        rw [hab, List.pairwise_append] at hp
        rcases List.mem_cons.mp hl' with rfl | hl'
        · omega
        · have := (List.pairwise_cons.mp hp.2.1).1 l hl'
          omega
  · cases h
theorem filter_ne {g : List Nat} {x : Nat} (hg : x ∈ g) : (g.filter fun y => !decide (y = x)).length < g.length := by
  rw [← List.countP_eq_length_filter]
  refine Nat.lt_of_le_of_ne (List.countP_le_length) fun h => ?_
  have := List.countP_eq_length.mp h x hg
  simp at this
theorem ascB_filter {n : Nat} {g : List Nat} {f : Nat → Bool} (h : ascB n g) : ascB n (g.filter f) := ⟨h.1.filter _, fun x hx => h.2 x (List.mem_filter.mp hx).1⟩
theorem asc_every {n : Nat} {g : List Nat} (h : ascB n g) : (List.range n).filter (fun x => decide (x ∈ g)) = g :=
  ascN (List.Pairwise.filter _ List.pairwise_lt_range) h.1 fun x => by
    rw [List.mem_filter, List.mem_range, decide_eq_true_eq]
    exact ⟨fun z => z.2, fun z => ⟨h.2 x z, z⟩⟩
theorem ok_less {ps : List Str} {ds r : List Dt} {g : List Nat} (h : okB ps (ds ++ r) g = true) : okB ps ds g = true := by
  unfold okB at h ⊢
  rw [decide_eq_true_eq] at h ⊢
  rw [List.map_append] at h
  exact (List.nodup_append.mp h).1
theorem bars_wide {ps : List Str} {ds r : List Dt} {g2 : List Nat} (h : barsOf ps (ds ++ r) = some g2) : ∃ g, barsOf ps ds = some g ∧ g.length ≤ g2.length := by
  obtain ⟨h1, h2, h3, h4⟩ := bars_some h
  have hall := ok_less h1
  obtain ⟨g, hg⟩ : ∃ g, barsOf ps ds = some g := by
    unfold barsOf
    rw [if_pos hall]
    exact ⟨_, rfl⟩
  refine ⟨g, hg, ?_⟩
  obtain ⟨_, _, _, k4⟩ := bars_some hg
  refine Nat.le_of_not_lt fun hlt => ?_
  have := k4 g2 h3 hlt
  rw [ok_less h2] at this
  cases this
/-! ### a colon for a bar -/
def numF : List Str := ["D", "DD", "M", "MM", "YY", "YYYY", "J", "JJJ"]
theorem numF_field {p : Str} (h : p ∈ numF) : p ∈ fields ∧ isField p = true ∧ isIn p ["MON", "WD"] = false ∧ p.length ≤ 4 := by
  have : ∀ p ∈ numF, p ∈ fields ∧ isField p = true ∧ isIn p ["MON", "WD"] = false ∧ p.length ≤ 4 := by decide +kernel
  exact this p h
theorem pc_num {p : Str} {d : Dt} (h : okD d) (hp : p ∈ numF) : ∀ c ∈ cs (pc p d), 48 ≤ c ∧ c ≤ 57 := by
  obtain ⟨h1, h2, h3, _⟩ := numF_field hp
  intro c hc
  have : ∃ k : Int, pc p d = padS (ival p d) k := by
    unfold pc
    rw [if_pos h2, if_neg (by rw [h3]; decide)]
    exact ⟨_, rfl⟩
  obtain ⟨k, e⟩ := this
  rw [e] at hc
  exact pad_codes (ival_bd h).1 hc
theorem pc_colon (d : Dt) : pc ":" d = ":" := pc_lit (by decide +kernel)
theorem jn_cons (p : Str) (ps : List Str) (d : Dt) : jn (p :: ps) d = cs (pc p d) ++ jn ps d := by unfold jn; rw [List.flatMap_cons]
theorem jn_swap {s t : Str} {a b : Nat} {gaps : List Nat} {d : Dt} (h : okD d) (hs : ∀ d, pc s d = s) (ht : ∀ d, pc t d = t) (cs1 : cs s = [a]) (ct : cs t = [b]) (ha : ¬ (48 ≤ a ∧ a ≤ 57)) : ∀ {ps : List Str} {i : Nat}, (∀ p ∈ ps, p ∈ numF) → (jn (wbF s gaps i ps) d).map (fun c => if c = a then b else c) = jn (wbF t gaps i ps) d
  | [], i, _ => rfl
  | p :: r, i, hp => by
    have hpc : (cs (pc p d)).map (fun c => if c = a then b else c) = cs (pc p d) := by
      have : ∀ c ∈ cs (pc p d), (fun c => if c = a then b else c) c = id c := fun c hc => by
        have := pc_num h (hp p List.mem_cons_self) c hc
        exact if_neg (fun z : c = a => ha (by rw [← z]; exact this))
      rw [List.map_congr_left this, List.map_id]
    have ih := jn_swap (gaps := gaps) (i := i + 1) h hs ht cs1 ct ha (ps := r) fun q hq => hp q (List.mem_cons_of_mem _ hq)
    unfold wbF
    by_cases hg : i ∈ gaps
    · rw [if_pos hg, if_pos hg, jn_cons, jn_cons, jn_cons, jn_cons, List.map_append, List.map_append, hpc, ih, hs, ht, cs1, ct]
      simp
    · rw [if_neg hg, if_neg hg, jn_cons, jn_cons, List.map_append, hpc, ih]
theorem ok_colon {ps : List Str} {ds : List Dt} {g : List Nat} (hp : ∀ p ∈ ps, p ∈ numF) (hd : ∀ d ∈ ds, okD d) : (ds.map (wr (wb ":" ps g))).Nodup ↔ okB ps ds g = true := by
  unfold okB
  rw [decide_eq_true_eq]
  have e1 : ∀ d ∈ ds, wr (wb "|" ps g) d = (fun t => ST ((cs t).map fun c => if c = 58 then 124 else c)) (wr (wb ":" ps g) d) := fun d hm => by
    refine cs_inj (((wr_cs _ d).trans ?_).trans (cs_ST _).symm)
    rw [show cs (wr (wb ":" ps g) d) = jn (wb ":" ps g) d from wr_cs _ d]
    exact (jn_swap (s := ":") (t := "|") (hd d hm) pc_colon pc_bar (by decide +kernel) (by decide +kernel) (by decide) hp).symm
  have e2 : ∀ d ∈ ds, wr (wb ":" ps g) d = (fun t => ST ((cs t).map fun c => if c = 124 then 58 else c)) (wr (wb "|" ps g) d) := fun d hm => by
    refine cs_inj (((wr_cs _ d).trans ?_).trans (cs_ST _).symm)
    rw [show cs (wr (wb "|" ps g) d) = jn (wb "|" ps g) d from wr_cs _ d]
    exact (jn_swap (s := "|") (t := ":") (hd d hm) pc_bar pc_colon (by decide +kernel) (by decide +kernel) (by decide) hp).symm
  have k1 : (ds.map (wr (wb ":" ps g))).Nodup → (ds.map (wr (wb "|" ps g))).Nodup := nodup_compOn (h := fun t => ST ((cs t).map fun c => if c = 124 then 58 else c)) e2
  have k2 : (ds.map (wr (wb "|" ps g))).Nodup → (ds.map (wr (wb ":" ps g))).Nodup := nodup_compOn (h := fun t => ST ((cs t).map fun c => if c = 58 then 124 else c)) e1
  exact ⟨k1, k2⟩
theorem adj_wbF {s : Str} {gaps : List Nat} : ∀ {ps : List Str} {i : Nat}, (∀ p ∈ ps, isField p = true) → adj (wbF s gaps i ps) = true ∧ adj (s :: wbF s gaps i ps) = true
  | [], i, _ => ⟨adj_nil, adj_one s⟩
  | p :: r, i, hp => by
    have hf := hp p List.mem_cons_self
    obtain ⟨h1, h2⟩ := adj_wbF (s := s) (gaps := gaps) (ps := r) (i := i + 1) fun q hq => hp q (List.mem_cons_of_mem _ hq)
    have h0 : adj (wbF s gaps i (p :: r)) = true ∧ ∃ t, wbF s gaps i (p :: r) = p :: t := by
      unfold wbF
      by_cases hg : i ∈ gaps
      · rw [if_pos hg]
        exact ⟨by rw [adj_cons, hf, h2]; rfl, _, rfl⟩
      · rw [if_neg hg]
        refine ⟨?_, _, rfl⟩
        cases hw : wbF s gaps (i + 1) r with
        | nil => exact adj_one p
        | cons q t => rw [adj_cons, hf, ← hw, h1]; rfl
    refine ⟨h0.1, ?_⟩
    obtain ⟨t, ht⟩ := h0.2
    have h3 := h0.1
    rw [ht] at h3 ⊢
    rw [adj_cons, hf, h3]
    simp
theorem wb_pat {ps : List Str} {g : List Nat} (hp : ∀ p ∈ ps, p ∈ numF) (h1 : 1 ≤ ps.length) (hl : (wb ":" ps g).length ≤ 7) : isPat (wb ":" ps g) = true := by
  refine LPat.pat (n := 7) ⟨⟨fun q hq => ?_, (adj_wbF fun p h => (numF_field (hp p h)).2.1).1⟩, ?_, hl⟩ (by decide)
  · rcases wbF_mem hq with rfl | hq
    · exact .inr (by decide +kernel)
    · exact .inl (numF_field (hp q hq)).1
  · cases ps with
    | nil => simp at h1
    | cons p r =>
      unfold wb wbF
      split <;> simp
theorem wbF_count (s : Str) (gaps : List Nat) : ∀ (ps : List Str) (i : Nat), (wbF s gaps i ps).length = ps.length + ((List.range' i ps.length).filter fun j => decide (j ∈ gaps)).length
  | [], i => by simp [wbF]
  | p :: r, i => by
    have ih := wbF_count s gaps r (i + 1)
    unfold wbF
    rw [List.length_cons, List.range'_succ, List.filter_cons]
    by_cases hg : i ∈ gaps
    · rw [if_pos hg, if_pos (decide_eq_true hg), List.length_cons, List.length_cons, List.length_cons, ih]; omega
    · rw [if_neg hg, if_neg (by simp [hg]), List.length_cons, ih]; omega
/-- bars at gaps only: at most one less than the parts -/
theorem wb_len7 {ps : List Str} {g : List Nat} (hl : ps.length ≤ 4) (h1 : 1 ≤ ps.length) (hg : ∀ x ∈ g, x < ps.length - 1) : (wb ":" ps g).length ≤ 7 := by
  unfold wb
  rw [wbF_count]
  have hlast : List.range' 0 ps.length = List.range' 0 (ps.length - 1) ++ [ps.length - 1] := by
    have := List.range'_concat (s := 0) (n := ps.length - 1) (step := 1)
    rw [show ps.length - 1 + 1 = ps.length by omega] at this
    simpa using this
  rw [hlast, List.filter_append, List.length_append]
  have h0 : ([ps.length - 1].filter fun j => decide (j ∈ g)) = [] := by
    rw [List.filter_eq_nil_iff]
    intro x hx
    rw [List.mem_singleton.mp hx]
    intro h
    have := hg _ (of_decide_eq_true h)
    omega
  rw [h0]
  have h2 := List.length_filter_le (fun j => decide (j ∈ g)) (List.range' 0 (ps.length - 1))
  rw [List.length_range'] at h2
  simp only [List.length_nil]
  omega
theorem wb_small' {ps : List Str} {g : List Nat} (hp : ∀ p ∈ ps, p ∈ numF) (hl : ps.length ≤ 4) : small (wb ":" ps g) := wb_small ⟨by omega, fun p h => by have := (numF_field (hp p h)).2.2.2; omega⟩ (by omega) (by decide)
end DP
set_option Elab.async false
set_option linter.all false
set_option maxRecDepth 100000
set_option maxHeartbeats 1000000
namespace DP
open PySem L2
/-! ### sorted(list of data) -/
section
variable {X : Cx} {P : Program} {w : World} {K : PySem.W.Frag} {mg : Str → Option Value} {base : Heap} {N : List Str} {sc : Scope} {k : Nat} {lv : Bool}
variable {H : Hp} {Q : VK} {a : Addr} {xs : List V} {β : Type}
theorem c_sortD (C : Kx X P w K mg base N sc k lv) {bs : List β} {enc : β → PyData} {Pr : β → V → Prop} (hq : SqL K H a xs) (hp : Paired Pr bs xs) (hd : ∀ b v, Pr b v → Dp K H v (enc b)) (al : PySem.W.AllAlike (bs.map enc)) (so : PySem.W.Sortable (bs.map enc)) (hdp : ∀ b ∈ bs, (enc b).depth ≤ 50) (hL : bs.length ≤ 1000000)
    (h : ∀ ys p, Paired Pr (bs.mergeSort (PySem.W.dataLe false enc)) ys → H p = none → Q (.ref p) (upd H p (.lst ys))) : wC X (.builtin "sorted") [.ref a] H Q := by
  have e3 := C.eK; subst e3
  refine ⟨fun pins s σ us I rv => ?_⟩
  obtain ⟨its, r, pl, hz⟩ := I.list hq
  rw [Vals.ref1 rv]
  have e1 : PySem.W.EachIs (fun (u : Value) b => ∃ v, RelV v u ∧ Pr b v) its bs := by
    clear hq pl hz al so hdp hL h
    induction hp generalizing its with
    | nil => cases r; exact .nil
    | cons h1 h2 ih =>
      cases r with
      | cons r1 r2 => exact .cons ⟨_, r1, h1⟩ (ih _ r2)
  have e2 : PySem.W.EachIs (fun (u : Value) b => ∃ as, PySem.Reads s.heap u (enc b) as) its bs := by
    clear hq pl hz al so hdp hL h r hp
    induction e1 with
    | nil => exact .nil
    | cons h1 h2 ih =>
      obtain ⟨v, r1, p1⟩ := h1
      exact .cons (Dp.reads I _ v _ (hd _ _ p1) r1) ih
  refine PySem.W.sorted_data (R := fun (u : Value) b => ∃ v, RelV v u ∧ Pr b v) pl.isList e1 e2 al so (sz5 hL) (fun b hb => by have := hdp b hb; have := C.room.un; omega) fun out hlen ho => ?_
  obtain ⟨ys, hv, hp'⟩ : ∃ ys, Vals ys out ∧ Paired Pr (bs.mergeSort (PySem.W.dataLe false enc)) ys := by
    clear hlen e1 e2
    generalize bs.mergeSort (PySem.W.dataLe false enc) = ms at ho
    induction ho with
    | nil => exact ⟨[], .nil, .nil⟩
    | cons h1 h2 ih =>
      obtain ⟨v, r1, p1⟩ := h1
      obtain ⟨ys, hv, hp'⟩ := ih
      exact ⟨v :: ys, .cons r1 hv, .cons p1 hp'⟩
  obtain ⟨ep, he'⟩ := PyProof.Rows.sortedAll_at s.heap its out.toArray
  have hyl : ys.length ≤ sizeLine := by rw [hv.length, hlen]; exact sz5 hL
  exact ⟨.ref _, upd H (s.heap.objs.size + 1) (.lst ys), I.laid (t' := s.toks) (fun _ _ => PyProof.Rows.sortedAll_old) (Nat.le_succ _) ⟨hyl, out, ep, hv, he'⟩, rfl, h ys _ hp' (I.hok.fresh (Nat.le_succ _))⟩
end
theorem perm_eq_of {α : Type} {R : α → α → Prop} : ∀ {l m : List α}, l.Perm m → l.Pairwise R → m.Pairwise R → (∀ a ∈ l, ∀ b ∈ l, R a b → R b a → a = b) → l = m
  | [], m, h, _, _, _ => (List.nil_perm.mp h).symm
  | x :: l, [], h, _, _, _ => absurd h.symm (by simp)
  | x :: l, y :: m, h, h1, h2, ha => by
    obtain ⟨a1, a2⟩ := List.pairwise_cons.mp h1
    obtain ⟨b1, b2⟩ := List.pairwise_cons.mp h2
    have hx : x ∈ y :: m := h.mem_iff.mp List.mem_cons_self
    have hy : y ∈ x :: l := h.mem_iff.mpr List.mem_cons_self
    have e : x = y := by
      rcases List.mem_cons.mp hx with e | hx
      · exact e
      · rcases List.mem_cons.mp hy with e | hy'
        · exact e.symm
        · exact ha x List.mem_cons_self y hy (a1 y hy') (b1 x hx)
    subst e
    rw [perm_eq_of h.cons_inv a2 b2 fun a h1 b h2 => ha a (List.mem_cons_of_mem _ h1) b (List.mem_cons_of_mem _ h2)]
/-! ### all lists of gaps -/
def FL : Nat → List (List Nat)
  | 0 => [[]]
  | n + 1 => FL n ++ (FL n).map (· ++ [n])
def LL (n : Nat) : List (List Nat) := barL n ++ [List.range n]
def encL (l : List Nat) : PyData := .tuple [.int (l.length : Nat), .list (l.map fun n : Nat => .int (n : Nat))]
theorem alike_encL (a b : List Nat) : PySem.W.alike (encL a) (encL b) = true := by
  have h := PySem.W.alike_ints (a.map fun n : Nat => (n : Int)) (b.map fun n : Nat => (n : Int))
  rw [List.map_map, List.map_map] at h
  unfold encL
  simp only [PySem.W.alike, PySem.W.alikeAll, Bool.and_true, Bool.true_and]
  exact h
theorem FL_sort {n : Nat} (h : n ≤ 3) : (FL n).mergeSort (PySem.W.dataLe false encL) = LL n := by
  have key : ∀ n ≤ 3, (FL n).Perm (LL n) ∧ (LL n).Pairwise (fun a b => PySem.W.dataLe false encL a b = true) ∧ ∀ a ∈ FL n, ∀ b ∈ FL n, PySem.W.dataLe false encL a b = true → PySem.W.dataLe false encL b a = true → a = b := by decide +kernel
  obtain ⟨h1, h2, h3⟩ := key n h
  have hp := List.mergeSort_perm (FL n) (PySem.W.dataLe false encL)
  refine perm_eq_of (R := fun a b => PySem.W.dataLe false encL a b = true) (hp.trans h1) (PySem.W.sort_pairwise (PySem.W.sortLe_total _ _ _) _) h2 fun a ha b hb => h3 a (hp.mem_iff.mp ha) b (hp.mem_iff.mp hb)
theorem FL_len : ∀ n, (FL n).length = 2 ^ n
  | 0 => rfl
  | n + 1 => by rw [FL, List.length_append, List.length_map, FL_len n, Nat.pow_succ]; omega
theorem FL_mem : ∀ {n : Nat} {l : List Nat}, l ∈ FL n → l.length ≤ n
  | 0, l, h => by rw [List.mem_singleton.mp (show l ∈ [[]] from h)]; simp
  | n + 1, l, h => by
    rcases List.mem_append.mp (show l ∈ FL n ++ (FL n).map (· ++ [n]) from h) with h | h
    · have := FL_mem h; omega
    · obtain ⟨r, hr, rfl⟩ := List.mem_map.mp h
      have := FL_mem hr
      simp; omega
theorem find_LL {ps : List Str} {ds : List Dt} (h : okB ps ds (List.range (ps.length - 1)) = true) : (LL (ps.length - 1)).find? (okB ps ds) = barsOf ps ds := by
  unfold LL barsOf
  rw [if_pos h, List.find?_append, List.find?_cons, h]
  cases (barL (ps.length - 1)).find? (okB ps ds) <;> rfl
end DP
set_option Elab.async false
set_option linter.all false
set_option maxRecDepth 100000
set_option maxHeartbeats 1000000
namespace DP
open PySem L2 PyProof.Rows
/-! ### the exception classes -/
structure Xs where
  c0 : Addr
  c1 : Addr
  c2 : Addr
  c3 : Addr
  c4 : Addr
  c5 : Addr
  c6 : Addr
  cD : Addr
def Xs.at (S : Xs) : Nat → Addr
  | 0 => S.c0
  | 1 => S.c1
  | 2 => S.c2
  | 3 => S.c3
  | 4 => S.c4
  | 5 => S.c5
  | _ => S.c6
structure XcN (mg : Str → Option Value) (S : Xs) : Prop where
  m0 : mg "InvalidDate" = some (.ref S.c0)
  m1 : mg "InvalidSpan" = some (.ref S.c1)
  m2 : mg "InvalidPattern" = some (.ref S.c2)
  m3 : mg "InvalidPatterns" = some (.ref S.c3)
  m4 : mg "InvalidText" = some (.ref S.c4)
  m5 : mg "Unreadable" = some (.ref S.c5)
  m6 : mg "InvalidFormat" = some (.ref S.c6)
  mD : mg "DateError" = some (.ref S.cD)
  nV : mg "ValueError" = none
abbrev vErr : List Value := [.type "ValueError", .type "Exception", .type "BaseException", .type "object"]
structure XcA (K : PySem.W.Frag) (S : Xs) (i : Nat) : Prop where
  ex : PySem.W.excIn K (S.at i) vErr "ValueError.__new__" = true
  kp : PySem.W.keepIn K (.ref (S.at i)) = true
  ty : PySem.W.typeIn K (.ref (S.at i)) = some (.type "type")
  is : ExcC K (S.at i)
  iv : PySem.W.kitOne K (.ref (S.at i)) (.type "ValueError") = some true
  k0 : PySem.W.kitOne K (.ref (S.at i)) (.ref S.c0) = some (decide (i = 0))
  k1 : PySem.W.kitOne K (.ref (S.at i)) (.ref S.c1) = some (decide (i = 1))
  k2 : PySem.W.kitOne K (.ref (S.at i)) (.ref S.c2) = some (decide (i = 2))
  k3 : PySem.W.kitOne K (.ref (S.at i)) (.ref S.c3) = some (decide (i = 3))
  k4 : PySem.W.kitOne K (.ref (S.at i)) (.ref S.c4) = some (decide (i = 4))
  k5 : PySem.W.kitOne K (.ref (S.at i)) (.ref S.c5) = some (decide (i = 5))
  k6 : PySem.W.kitOne K (.ref (S.at i)) (.ref S.c6) = some (decide (i = 6))
  em : PySem.W.exmOne K (.ref (S.at i)) (.ref S.cD) = some true
/-! ### raise, and defs that may raise -/
section
variable {X : Cx} {C : Addr} {x : Str} {p pos : Pos}
/-- X() -/
theorem pmk0 (q : PySem.W.excIn X.K C vErr "ValueError.__new__" = true) (gC : X.mg x = some (.ref C)) (kC : PySem.W.keepIn X.K (.ref C) = true) (r : Raises X (.ref C)) (hg : Gl X x) (hdb : (x == ("__debug__" : Str)) = false := by decide) : PMk X (.Call (.Name x p) [] [] pos) (fun _ H Q => Q (.ref C) none H) := by
  intro pins s σ H Q I h
  refine wpAny_Call_Name_kw (ld_glob I hg gC ?_ hdb)
  refine PySem.W.callWith_K0 I.kIn kC ?_
  obtain ⟨bm, N, nm, qn, bs, hdct, sn, sub, ab, col, dd, k0, k1, k2, k3, k5, mN, hC, hN, hni, T⟩ := exc_obj I.kIn q
  exact wpAny_call_exc_subT PySem.F.excBase_ValueError T hC hN hni (fun h' e hm => mk_of I hm r h (I.hok.gone hm.new)) (Nat.zero_le _)
end
structure CalX (P : Program) (w : World) (K : PySem.W.Frag) (mg : Str → Option Value) (base : Heap) (k : Nat) (x : Str) (sp : Sp) : Prop where
  ex : ∃ (f : Addr) (fd : FuncData) (ps : List Str), FnOk P w K mg base (L2.CX P w) k f fd ps sp ∧ mg x = some (.ref f) ∧ PySem.W.keepIn K (.ref f) = true ∧ Binds K fd ps []
section
variable {X : Cx} {P : Program} {w : World} {K : PySem.W.Frag} {mg : Str → Option Value} {base : Heap} {N : List Str} {sc : Scope} {k : Nat} {lv : Bool}
variable {σ : L2.St} {H : Hp} {Q : VK} {pos p pos' : Pos} {e : Expr} {es : List Expr} {x : Str} {sp : Sp} {nx : L2.St → Hp → Prop} {rt : VK} {bk ct : L2.St → Hp → Prop} {W : WX}
theorem s_raise {Cx : Addr} (C : Kx X P w K mg base N sc k lv) (tk : Takes X W) (q : PySem.W.excIn K Cx vErr "ValueError.__new__" = true) (kp : PySem.W.keepIn K (.ref Cx) = true) (ty : PySem.W.typeIn K (.ref Cx) = some (.type "type")) (sb : PySem.W.subIn K (.ref Cx) (.type "BaseException") = some true) (hm : mg x = some (.ref Cx)) (h : W (.ref Cx) none σ H) (hg : sc.names.lookup x = some .globalImplicit := by rfl) (hdb : (x == ("__debug__" : Str)) = false := by decide) :
    wS X (.Raise (some (.Call (.Name x p) [] [] pos)) none pos') nx rt bk ct σ H := by
  have e3 := C.eK; have e4 := C.emg
  subst e3 e4
  exact goS (ps_raise C.calm tk (pmk0 q hm kp (raises_own sb ty) (C.gl hg) hdb)) h
theorem calX_of {st : Stmt} {f : Addr} {fd : FuncData} {ps : List Str} (N : List Str) (F : Def K mg x st f fd) (b : Binds K fd ps []) (S : FnScope N ps (defScope st)) (len : ∀ vs H Q E, sp vs H Q E → vs.length = ps.length)
    (hbody : ∀ (X : Cx) (H : Hp) (vs : List V) (Q : VK) (E : XK), Kx X P w K mg base N (defScope st) k true → Takes X (fun cls d _ H' => E cls d H') → sp vs H Q E →
      wSs X (defBody st) (fun _ H' => Q .non H') Q (fun _ _ => False) (fun _ _ => False) (start N vs) H) : CalX P w K mg base (k + 1) x sp := by
  refine ⟨f, fd, ps, F.fn.okX S len fun cdv A outer s H vs Q E hr hsp => ⟨_, pssW, ?_⟩, F.mgf, F.fn.kp, b⟩
  exact hbody _ H vs Q E ⟨rfl, rfl, rfl, rfl, rfl, rfl, rfl, S.nd, S.kind, rfl, hr, passes_of rfl, fun _ _ => rfl⟩ (takes_of rfl rfl rfl rfl) hsp
/-- a call that may raise -/
theorem e_callX {j : Nat} (C : Kx X P w K mg base N sc k lv) (tk : Takes X W) (c : CalX P w K mg base j x sp) (h : wA X (e :: es) σ H fun vs H1 => sp vs H1 Q (fun cls d H' => W cls d σ H')) (hk : j ≤ k := by decide) (hg : sc.names.lookup x = some .globalImplicit := by rfl) (hdb : (x == ("__debug__" : Str)) = false := by decide)
    (he : starEach (e :: es) X.env = (false, eval e X.env) :: starEach es X.env := by rfl) (hpl : (backTo pos (starEach es X.env)).any (·.1) = false := by rfl) : wE X (.Call (.Name x p) (e :: es) [] pos) σ H Q := by
  have e1 := C.eprog; have e2 := C.ew; have e3 := C.eK; have e4 := C.emg; have e5 := C.ebase
  subst e1 e2 e3 e4 e5
  obtain ⟨f, fd, ps, F, hm, kp, b⟩ := c.ex
  exact goE (pe_callS F (C.room.mono hk) (C.gl hg) hm kp b (fun σ => passAt tk σ) paW hdb he hpl) h
/-- a def that holds a try -/
theorem calT_of {st : Stmt} {f : Addr} {fd : FuncData} {ps : List Str} (N : List Str) (F : Def K mg x st f fd) (b : Binds K fd ps []) (S : FnScope N ps (defScope st)) (len : ∀ vs H Q E, sp vs H Q E → vs.length = ps.length)
    (hbody : ∀ (X : Cx) (H : Hp) (vs : List V) (Q : VK) (E : XK), Kx X P w K mg base N (defScope st) k true → X.stack = X.env :: X.outer → X.env.frame = some X.env.locals → sp vs H Q E →
      wSs X (defBody st) (fun _ H' => Q .non H') Q (fun _ _ => False) (fun _ _ => False) (start N vs) H) : Cal P w K mg base (k + 1) x sp := by
  refine ⟨f, fd, ps, F.fn.ok S len fun cdv A outer s H vs Q E hr hsp => ⟨_, pssW, ?_⟩, F.mgf, F.fn.kp, b⟩
  exact hbody _ H vs Q E ⟨rfl, rfl, rfl, rfl, rfl, rfl, rfl, S.nd, S.kind, rfl, hr, PassesOwn.never, fun _ _ => rfl⟩ rfl rfl hsp
end
/-! ### where an exception is held -/
structure KxW (X : Cx) (P : Program) (w : World) (K : PySem.W.Frag) (mg : Str → Option Value) (base : Heap) (N : List Str) (sc : Scope) (k : Nat) (a : Addr) (cls : Value) : Prop where
  eprog : X.prog = P
  ew : X.w = w
  eK : X.K = K
  emg : X.mg = mg
  ebase : X.base = base
  eN : X.N = N
  esc : X.env.scope = sc
  nd : N.Nodup
  room : L2H.RoomH k X.A
  fn : ∀ x, X.fn x = true
  pin : ∃ oe : Obj, (a, oe) ∈ X.pn ∧ oe.cls = cls ∧ oe.dict = none ∧ ∃ vs, oe.data = .fields vs
section
variable {X : Cx} {P : Program} {w : World} {K : PySem.W.Frag} {mg : Str → Option Value} {base : Heap} {N : List Str} {sc : Scope} {k : Nat} {a : Addr} {cls : Value}
variable {σ : L2.St} {H : Hp} {Q : VK} {pos p pos' : Pos} {e : Expr} {es : List Expr} {x : Str}
theorem KxW.gl (D : KxW X P w K mg base N sc k a cls) (h : sc.names.lookup x = some .globalImplicit) : Gl X x := by
  unfold Gl Env.kindOf
  rw [D.esc]
  exact h
theorem KxW.at (D : KxW X P w K mg base N sc k a cls) {i : Nat} (h : N[i]? = some x) : X.N[i]? = some x := by rw [D.eN]; exact h
theorem h_var {i : Nat} {v : V} (D : KxW X P w K mg base N sc k a cls) (hN : N[i]? = some x) (hs : σ[i]? = some (some v)) (h : Q v H) (hv : Vis sc x := by first | exact Or.inl rfl | exact Or.inr (Or.inl rfl) | exact Or.inr (Or.inr rfl)) (hd : (x == ("__debug__" : Str)) = false := by decide) (hcd : (x == ("__classdict__" : Str)) = false := by decide) :
    wE X (.Name x pos) σ H Q := goE (pe_var (D.at hN) (by rw [D.esc]; exact hv) hd hcd) ⟨v, hs, h⟩
theorem h_glob {v : V} {u : Value} (D : KxW X P w K mg base N sc k a cls) (hm : mg x = some u) (r : RelV v u) (h : Q v H) (hg : sc.names.lookup x = some .globalImplicit := by rfl) (hd : (x == ("__debug__" : Str)) = false := by decide) : wE X (.Name x pos) σ H Q := goE (pe_glob (D.gl hg) (by rw [D.emg]; exact hm) r hd) h
theorem h_blt {v : V} {u : Value} (D : KxW X P w K mg base N sc k a cls) (hm : mg x = none) (hv : bootBuiltins x = some u) (r : RelV v u) (h : Q v H) (hg : sc.names.lookup x = some .globalImplicit := by rfl) (hn : x ≠ "__name__" := by decide) (hd : (x == ("__debug__" : Str)) = false := by decide) :
    wE X (.Name x pos) σ H Q := goE (pe_bltn (D.gl hg) (by rw [D.emg]; exact hm) hv r hn hd) h
theorem h_callB {id : String} (D : KxW X P w K mg base N sc k a cls) (hm : mg x = none) (hv : bootBuiltins x = some (.builtin id)) (h : wA X (e :: es) σ H fun vs H1 => wC X (.builtin id) vs H1 Q) (hg : sc.names.lookup x = some .globalImplicit := by rfl) (hn : x ≠ "__name__" := by decide) (hdb : (x == ("__debug__" : Str)) = false := by decide)
    (he : starEach (e :: es) X.env = (false, eval e X.env) :: starEach es X.env := by rfl) (hpl : (backTo pos (starEach es X.env)).any (·.1) = false := by rfl) : wE X (.Call (.Name x p) (e :: es) [] pos) σ H Q :=
  goE (pe_callB crW (D.gl hg) (by rw [D.emg]; exact hm) hv paW hn hdb he hpl) h
theorem h_name {Q : L2.St → Hp → Prop} {v : V} {i : Nat} (D : KxW X P w K mg base N sc k a cls) (hN : N[i]? = some x) (h : Q (σ.set i (some v)) H) (hx : sc.names.lookup x = some .local := by rfl) : wG X (.Name x pos) v σ H Q :=
  goG (pg_name (by rw [D.eN]; exact D.nd) (D.at hN) (by rw [D.esc]; exact .inl hx) (.inl (D.fn x))) h
theorem h_isi {Cx : Addr} {c : V} {cv : Value} {b : Bool} (D : KxW X P w K mg base N sc k a (.ref Cx)) (I : ExcC K Cx) (hc : ∀ u, RelV c u → u = cv) (hk : PySem.W.kitOne K (.ref Cx) cv = some b) (h : Q (.bl b) H) : wC X (.builtin "isinstance") [.ref a, c] H Q := by
  have e3 := D.eK; subst e3
  refine ⟨fun pins s σ us J rv => ?_⟩
  obtain ⟨oe, hp, h1, h2, vs, h3⟩ := D.pin
  cases rv with
  | cons rx rr =>
    cases rr with
    | cons rt rr =>
      cases rr; cases rx
      have ec := hc _ rt
      subst ec
      have hget := (J.pin (a, oe) (List.mem_append.mpr (.inl hp))).1
      have T : PySem.W.InstAt s.heap a oe Cx none := by
        obtain ⟨oc, od, oda, osl⟩ := oe
        dsimp only at h1 h2 h3
        subst h1 h2 h3
        exact ⟨hget, rfl, rfl, trivial⟩
      exact PySem.W.kia_one (PySem.W.handS_kitx_exc I.hg I.hk I.hs I.hd I.ha I.hn I.ht I.hm) J.kIn T hk (fun z => nomatch z) fun tk => ⟨.bl b, H, J.kept (t' := tk) fun _ _ z => z, rfl, h⟩
theorem h_eqD (D : KxW X P w K mg base N sc k a cls) {v u : V} {d e : PyData} (hd : Dp K H v d) (he : Dp K H u e) (sd : SeqAt.shaped d = true) (se : SeqAt.shaped e = true) (h : Q (.bl (PyData.eqv d e)) H) : wOp X (compareOp .Eq) v u H Q := by
  have e3 := D.eK; subst e3
  exact goOp (op_eqD (by have := D.room.un; omega)) ⟨d, e, hd, he, sd, se, h⟩
end
/-- xs.count(y), flat items -/
theorem m_count {X : Cx} {K : PySem.W.Frag} {H : Hp} {Q : VK} {a : Addr} {ys : List V} {y : V} (eK : X.K = K) (hq : SqL K H a ys) (fy : flatV y = true) (fys : ys.all flatV = true) (h : Q (nI (ys.countP fun z => eqV z y)) H) : wM X "list.count" (.ref a) [y] H Q := by
  subst eK
  refine ⟨fun pins s σ v us I rx rxs => ?_⟩
  cases rx
  cases rxs with
  | cons ry rt =>
    rename_i uy ut
    cases rt
    obtain ⟨its, rv, ⟨⟨cls, dd, data, sl⟩, n, ho, hc, hdn, hd⟩, hlen⟩ := I.list hq
    simp only at hc hd
    subst hc hd
    refine call_meets PySem.F.slot_list_count ⟨_, ho, rfl⟩ PySem.F.entry_list_count (PySem.F.args_list_count_2 _ _) (SeqAt.list_countAt a its.toArray n dd sl uy (eqU y)) ⟨ho, fun u' hu' => mem_eqAt ry fy rv fys u' (by simpa using hu'), ?_⟩
    have ec : its.toArray.toList.countP (eqU y) = ys.countP fun z => eqV z y := by
      clear hq hlen ho h
      have : ∀ {ys : List V} {its : List Value}, Vals ys its → ys.all flatV = true → its.countP (eqU y) = ys.countP fun z => eqV z y := by
        intro ys its rv fys
        induction rv with
        | nil => rfl
        | cons r1 r2 ih =>
          rw [List.all_cons, Bool.and_eq_true] at fys
          rw [List.countP_cons, List.countP_cons, ih fys.2, eqU_of r1 fys.1]
      exact this rv fys
    refine ⟨nI (ys.countP fun z => eqV z y), H, I.tok _, ⟨s.toks, ?_⟩, h⟩
    show Value.int ((its.toArray.toList.countP (eqU y) : Nat) : Int) s.toks = _
    rw [ec]
theorem m_index {X : Cx} {K : PySem.W.Frag} {H : Hp} {Q : VK} {a : Addr} {ys : List V} {y z : V} {j : Nat} (eK : X.K = K) (hq : SqL K H a ys) (fy : flatV y = true) (fys : ys.all flatV = true) (hz : ys[j]? = some z) (he : eqV z y = true) (hno : ∀ (m : Nat) (z' : V), m < j → ys[m]? = some z' → eqV z' y = false) (h : Q (nI j) H) : wM X "list.index" (.ref a) [y] H Q := by
  subst eK
  exact goM mt_index ⟨a, ys, y, j, z, rfl, rfl, hq, fy, fys, hz, he, hno, h⟩
/-! ### try .. except DateError as error -/
section
variable {X : Cx} {P : Program} {w : World} {K : PySem.W.Frag} {mg : Str → Option Value} {base : Heap} {N : List Str} {sc : Scope} {k : Nat} {lv : Bool}
variable {σ : L2.St} {H : Hp} {np pos pos' : Pos} {x n : Str} {i : Nat} {body suite : List Stmt} {b0 : Stmt} {nx : L2.St → Hp → Prop} {rt : VK} {bk ct : L2.St → Hp → Prop} {cD : Addr}
/-- what the suite takes -/
def WSuite (P : Program) (w : World) (K : PySem.W.Frag) (mg : Str → Option Value) (base : Heap) (N : List Str) (sc : Scope) (k : Nat) (cD : Addr) (i : Nat) (suite : List Stmt) (nx : L2.St → Hp → Prop) (rt : VK) (bk ct : L2.St → Hp → Prop) : WX := fun cls d σ H =>
  d = none ∧ PySem.W.exmOne K cls (.ref cD) = some true ∧ ∀ (X2 : Cx) (a : Addr), H a = none → KxW X2 P w K mg base N sc k a cls → wSs X2 suite (fun σ' H' => nx (σ'.set i none) H') rt (fun σ' H' => bk (σ'.set i none) H') (fun σ' H' => ct (σ'.set i none) H') (σ.set i (some (.ref a))) H
theorem s_tryAs (C : Kx X P w K mg base N sc k true) (hs : X.stack = X.env :: X.outer) (hf : X.env.frame = some X.env.locals) (hx : mg x = some (.ref cD))
    (hb : ∀ (X' : Cx) (W : WX), Kx X' P w K mg base N sc k true → Takes X' W → (∀ cls d σ' H', WSuite P w K mg base N sc k cD i (b0 :: suite) nx rt bk ct cls d σ' H' → W cls d σ' H') → wSs X' body nx rt bk ct σ H)
    (hi : N[i]? = some n := by rfl) (hl : sc.names.lookup n = some .local := by rfl) (hg : sc.names.lookup x = some .globalImplicit := by rfl) (hdb : (x == ("__debug__" : Str)) = false := by decide) :
    wS X (.Try body [.ExceptHandler (some (.Name x np)) (some n) (b0 :: suite) pos'] [] [] pos) nx rt bk ct σ H := by
  have e1 := C.eprog; have e2 := C.ew; have e3 := C.eK; have e4 := C.emg; have e5 := C.ebase; have e6 := C.eN; have e7 := C.esc
  subst e1 e2 e3 e4 e5 e6 e7
  refine goS (ps_try_as (i := i) (c := .ref cD) (Wout := fun _ _ _ _ => False)
    (tb := fun W D σ H => ∀ X' : Cx, Kx X' X.prog X.w X.K X.mg X.base X.N X.env.scope k true → Takes X' W → wSs X' body D.nx D.rt D.bk D.ct σ H)
    (ts := fun a cls d D σ H => d = none ∧ ∀ X2 : Cx, KxW X2 X.prog X.w X.K X.mg X.base X.N X.env.scope k a cls → wSs X2 (b0 :: suite) D.nx D.rt D.bk D.ct σ H)
    hs hf C.nd hi hl ⟨C.gl hg, hdb, .inl hx⟩ takes0 (fun W pn xe tk own => ⟨fun pins s σ H D I h => (h (X.tr pn xe) ⟨rfl, rfl, rfl, rfl, rfl, rfl, rfl, C.nd, C.kind, C.calm, C.room, own, C.fn⟩ tk).run pins s I⟩)
    (fun a oe cls d pn hz hv => ⟨fun pins s σ H D I h => ?_⟩)) ?_
  · obtain ⟨rfl, h⟩ := h
    refine (h (X.suite a ((a, oe) :: pn)) ⟨rfl, rfl, rfl, rfl, rfl, rfl, rfl, C.nd, ?_, fun x => C.fn rfl x, oe, List.mem_cons_self, hz.1, hz.2, hv⟩).run pins s I
    exact ⟨C.room.dp, C.room.un⟩
  · intro X' C' tk'
    refine hb X' _ C' tk' fun cls d σ' H' ⟨hd, hm, hsu⟩ => ⟨true, hm, fun _ a ha => ⟨hd, fun X2 D => hsu X2 a ha D⟩, fun z => by cases z⟩
end
/-! ### a def that is told the exception -/
structure CalW (P : Program) (w : World) (K : PySem.W.Frag) (mg : Str → Option Value) (base : Heap) (k : Nat) (x : Str) (sp : Addr → Hp → VK → Prop) : Prop where
  ex : ∃ f : Addr, mg x = some (.ref f) ∧ PySem.W.keepIn K (.ref f) = true ∧ ∀ (A : Around) (outer : List Env) (s : Shared) (H : Hp) (p : Addr × Obj) (Q : VK) (C : Addr), L2H.RoomH k A → L2H.PinOk outer H s p → p.2.cls = .ref C → p.2.dict = none → (∃ vs, p.2.data = .fields vs) → Env0 P w K mg base A outer s H → sp C H Q →
    codeAny (model P w) A (.call (.ref f) ⟨[.ref p.1], []⟩) (CR CX0 outer P w H s Q E0) s
section
variable {P : Program} {w : World} {K : PySem.W.Frag} {mg : Str → Option Value} {base : Heap} {N : List Str} {k : Nat} {x : Str} {sp : Addr → Hp → VK → Prop}
theorem calW_of {st : Stmt} {f : Addr} {fd : FuncData} {e : Str} (N : List Str) (F : Def K mg x st f fd) (b : Binds K fd [e] []) (S : FnScope N [e] (defScope st))
    (hbody : ∀ (X : Cx) (H : Hp) (Q : VK) (a C : Addr), KxW X P w K mg base N (defScope st) k a (.ref C) → sp C H Q → wSs X (defBody st) (fun _ H' => Q .non H') Q (fun _ _ => False) (fun _ _ => False) (start N [.ref a]) H) : CalW P w K mg base (k + 1) x sp := by
  refine ⟨f, F.mgf, F.fn.kp, fun A outer s H p Q C hr hpin hcls hdct hfl e0 hsp => ?_⟩
  obtain ⟨oc, od, kV, doc, pm, an, cdv, ct, osl, rfl, lk, hcd⟩ := F.fn.ex
  have KX : K.In s.heap := e0.mod.kin.keeps fun b o q => (e0.bs b o q).1
  have lim : s.heap.NoLimit := e0.mod.nolimit.keeps fun b o q => (e0.bs b o q).1
  have hkind : ∀ y ∈ [e].zip [Value.ref p.1], (defScope st).names.lookup y.1 = some .local ∨ ((defScope st).names.lookup y.1 = some .cell ∧ ((cellsFrom (s.heap.objs.size + 1) (defScope st).names []).lookup y.1).isSome = true) := fun ⟨n, v⟩ hy => by
    rcases S.par n (List.of_mem_zip hy).1 with q | q
    · exact .inl q
    · exact .inr ⟨q, PySem.W.cellsFrom_some _ _ _ (.inl q)⟩
  have hbnd := b s [.ref p.1] KX rfl
  refine codeAny_call_function hr.depth (KX _ _ lk) rfl S.co S.gen rfl (PySem.W.codeRec_of KX hcd) (hbnd _ _ _ _ ?_); refine wpAny_newFunctionEnv_cells S.kind hkind fun env he s1 xx => ?_
  subst he
  refine ⟨lim.keeps xx.toInCall.keep, codeAny_func ?_⟩
  have I : Inv (L2H.cxH CX0 P w K mg base N x (defScope st) f cdv A outer s H E0 p) [] (L2.start N [.ref p.1]) H s1 := L2H.inv_startH S hpin e0 rfl (.cons rfl .nil) xx
  have hw := (hbody (L2H.cxH CX0 P w K mg base N x (defScope st) f cdv A outer s H E0 p).nox H Q p.1 C ⟨rfl, rfl, rfl, rfl, rfl, rfl, rfl, S.nd, hr.deeper _, fun _ => rfl, p.2, List.mem_cons_self, hcls, hdct, hfl⟩ hsp).run [] s1 (I.wish _)
  refine wpAny_mono hw (fun fl s' hs => ?_) fun _ _ z => z.elim
  have fin : ∀ {σ' : L2.St} {H' : Hp} {v : V} {u : Value}, Inv (L2H.cxH CX0 P w K mg base N x (defScope st) f cdv A outer s H E0 p) [] σ' H' s' → RelV v u → Q v H' → CE outer P w H s Q u s' := fun J rv q => ⟨_, _, J.os, J.bare, J.base, J.hok, rv, q⟩
  cases fl with
  | ret u => obtain ⟨v, σ', H', J, rv, q⟩ := hs; exact fin J.unwish rv q
  | next => obtain ⟨σ', H', J, q⟩ := hs; exact fin (v := V.non) (u := Value.none) J.unwish rfl q
  | brk => obtain ⟨_, _, _, q⟩ := hs; exact q.elim
  | cont => obtain ⟨_, _, _, q⟩ := hs; exact q.elim
variable {X : Cx} {sc : Scope} {a C : Addr} {σ : L2.St} {H : Hp} {Q : VK} {pos p : Pos} {e : Expr} {j : Nat}
/-- x(error), in a suite -/
theorem h_callW (D : KxW X P w K mg base N sc k a (.ref C)) (c : CalW P w K mg base j x sp) (he : wE X e σ H fun v H1 => v = .ref a ∧ H1 = H) (q : sp C H Q) (hk : j ≤ k := by decide) (hg : sc.names.lookup x = some .globalImplicit := by rfl) (hdb : (x == ("__debug__" : Str)) = false := by decide)
    (hst : starEach [e] X.env = (false, eval e X.env) :: starEach [] X.env := by rfl) (hpl : (backTo pos (starEach [] X.env)).any (·.1) = false := by rfl) : wE X (.Call (.Name x p) [e] [] pos) σ H Q := by
  have e1 := D.eprog; have e2 := D.ew; have e3 := D.eK; have e4 := D.emg; have e5 := D.ebase
  subst e1 e2 e3 e4 e5
  obtain ⟨f, hm, kp, run⟩ := c.ex
  refine ⟨fun pins s I => ?_⟩
  refine wpAny_Call_Name_kw (ld_glob I (D.gl hg) hm ?_ hdb)
  have hA : wA X [e] σ H fun vs H1 => vs = [.ref a] ∧ H1 = H := a_cons (wE_mono (fun v H1 ⟨z1, z2⟩ => a_nil ⟨by rw [z1], z2⟩) he) hst
  refine PySem.W.callWith_K (h₀ := X.base) I.ok.mod.kin kp (thn (hA.run pos pins s I) fun us s1 z => ?_) hst hpl
  obtain ⟨vs, H1, I1, r, z1, z2⟩ := z
  subst z1 z2
  have hus : us = [.ref a] := Vals.ref1 r
  subst hus
  obtain ⟨oe, hp, h1, h2, h3⟩ := D.pin
  obtain ⟨g1, g2, g3, g4, g5⟩ := I1.pin (a, oe) (List.mem_append.mpr (.inl hp))
  refine ⟨I1.kIn, wpAny_call (codeAny_mono (run X.A X.stack s1 H1 (a, oe) Q C (D.room.mono hk) ⟨g1, g2, fun hm => ?_, g5⟩ h1 h2 h3 I1.env0 q) fun r s' hq => ?_)⟩
  · rcases List.mem_cons.mp (I1.stkSub _ hm) with z | z
    · exact g3 z
    · exact g4 z
  · cases r with
    | error e => exact hq.elim
    | ok fl =>
      cases fl with
      | ret u => exact I1.after hq
      | next => exact False.elim hq
      | brk => exact False.elim hq
      | cont => exact False.elim hq
end
end DP
set_option Elab.async false
set_option linter.all false
set_option maxRecDepth 100000
set_option maxHeartbeats 1000000
namespace DP
open PySem L2
section
variable {X : Cx} {P : Program} {w : World} {K : PySem.W.Frag} {mg : Str → Option Value} {base : Heap} {N : List Str} {sc : Scope} {k : Nat} {a Cx : Addr}
variable {σ : L2.St} {H : Hp} {Q : VK} {pos p p1 p2 : Pos} {x y : Str} {i : Nat}
/-- isinstance(error, c), c a class of the module -/
theorem h_isE {cj : Addr} {b : Bool} (D : KxW X P w K mg base N sc k a (.ref Cx)) (B : Bn mg) (I : ExcC K Cx) (hN : N[i]? = some y) (hs : σ[i]? = some (some (.ref a))) (hm : mg x = some (.ref cj)) (hk : PySem.W.kitOne K (.ref Cx) (.ref cj) = some b) (h : Q (.bl b) H) (hv : Vis sc y := by first | exact Or.inl rfl | exact Or.inr (Or.inl rfl) | exact Or.inr (Or.inr rfl)) (hd : (y == ("__debug__" : Str)) = false := by decide) (hcd : (y == ("__classdict__" : Str)) = false := by decide) (hg : sc.names.lookup ("isinstance" : Str) = some .globalImplicit := by rfl) (hgx : sc.names.lookup x = some .globalImplicit := by rfl) (hdx : (x == ("__debug__" : Str)) = false := by decide)
    (s1 : starEach [Expr.Name y p1, .Name x p2] X.env = (false, eval (.Name y p1) X.env) :: starEach [.Name x p2] X.env := by rfl) (s2 : starEach [Expr.Name x p2] X.env = (false, eval (.Name x p2) X.env) :: starEach [] X.env := by rfl) (hpl : (backTo pos (starEach [Expr.Name x p2] X.env)).any (·.1) = false := by rfl) :
    wE X (.Call (.Name "isinstance" p) [.Name y p1, .Name x p2] [] pos) σ H Q :=
  h_callB D B.n_isinstance bt_isinstance (a_cons (h_var D hN hs (a_cons (h_glob D hm (show RelV (.ref cj) (.ref cj) from rfl) (a_nil (h_isi D I (fun u r => r) hk h)) hgx hdx) s2) hv hd hcd) s1) hg (by decide) (by decide) s1 hpl
/-- isinstance(error, T), T a built-in class -/
theorem h_isT {T : String} {b : Bool} (D : KxW X P w K mg base N sc k a (.ref Cx)) (B : Bn mg) (I : ExcC K Cx) (hN : N[i]? = some y) (hs : σ[i]? = some (some (.ref a))) (hm : mg x = none) (hbt : bootBuiltins x = some (.type T)) (hk : PySem.W.kitOne K (.ref Cx) (.type T) = some b) (h : Q (.bl b) H) (hv : Vis sc y := by first | exact Or.inl rfl | exact Or.inr (Or.inl rfl) | exact Or.inr (Or.inr rfl)) (hd : (y == ("__debug__" : Str)) = false := by decide) (hcd : (y == ("__classdict__" : Str)) = false := by decide) (hg : sc.names.lookup ("isinstance" : Str) = some .globalImplicit := by rfl) (hgx : sc.names.lookup x = some .globalImplicit := by rfl) (hnx : x ≠ "__name__" := by decide) (hdx : (x == ("__debug__" : Str)) = false := by decide)
    (s1 : starEach [Expr.Name y p1, .Name x p2] X.env = (false, eval (.Name y p1) X.env) :: starEach [.Name x p2] X.env := by rfl) (s2 : starEach [Expr.Name x p2] X.env = (false, eval (.Name x p2) X.env) :: starEach [] X.env := by rfl) (hpl : (backTo pos (starEach [Expr.Name x p2] X.env)).any (·.1) = false := by rfl) :
    wE X (.Call (.Name "isinstance" p) [.Name y p1, .Name x p2] [] pos) σ H Q :=
  h_callB D B.n_isinstance bt_isinstance (a_cons (h_var D hN hs (a_cons (h_blt D hm hbt (show RelV (.ty T) (.type T) from rfl) (a_nil (h_isi D I (fun u r => r) hk h)) hgx hnx hdx) s2) hv hd hcd) s1) hg (by decide) (by decide) s1 hpl
end
theorem bt_ValueError : bootBuiltins "ValueError" = some (.type "ValueError") := by decide +kernel
/-- which of the seven classes -/
def sp_which (K : PySem.W.Frag) (S : Xs) : Addr → Hp → VK → Prop := fun C H Q => ∃ i, i < 7 ∧ C = S.at i ∧ XcA K S i ∧ ∀ p H', H p = none → Ex H H' → H' p = some (.tup [.str "raised", nI i]) → Q (.ref p) H'
def which (i : Nat) : List V := [.bl (decide (i = 0)), .bl (decide (i = 1)), .bl (decide (i = 2)), .bl (decide (i = 3)), .bl (decide (i = 4)), .bl (decide (i = 5)), .bl (decide (i = 6))]
theorem which_count : ∀ i < 7, (which i).countP (fun z => eqV z (.bl true)) = 1 := by decide +kernel
theorem which_at : ∀ i < 7, (which i)[i]? = some (.bl true) := by decide +kernel
theorem which_no : ∀ i < 7, ∀ m < i, ∀ z, (which i)[m]? = some z → eqV z (.bl true) = false := by
  have : ∀ i < 7, ∀ m < i, ((which i)[m]?.map fun z => eqV z (.bl true)) = some false := by decide +kernel
  intro i hi m hm z hz
  have := this i hi m hm
  rw [hz] at this
  exact Option.some.inj this
theorem which_flat (i : Nat) : (which i).all flatV = true := rfl
def rD (i : Nat) : PyData := .tuple [.str "raised", .int (i : Nat)]
theorem dp_raised {K : PySem.W.Frag} {H : Hp} {p : Addr} {i : Nat} (h : SqT K H p [.str "raised", nI i]) : Dp K H (.ref p) (rD i) := .tup h (.cons (.str _) (.cons (.int _) .nil))
theorem sh_rD (n i : Nat) : sh (n + 1) (rD i) := sh_tup (shA_cons (sh_str _ (by decide +kernel)) (shA_cons (sh_int _ _) (shA_nil _)))
theorem clean_rD (i : Nat) : clean (rD i) = true := by simp [rD, clean, cleanA]
theorem eqv_rD (i j : Nat) : PyData.eqv (rD i) (rD j) = decide (i = j) := eqv_dec (clean_rD i) (clean_rD j) ⟨fun h => by
  have := (List.cons.inj (PyData.tuple.inj h)).2
  have := PyData.int.inj (List.cons.inj this).1
  omega, fun h => by rw [h]⟩
end DP
set_option Elab.async false
set_option linter.all false
set_option maxRecDepth 100000
set_option maxHeartbeats 1000000
namespace DP
open PySem L2 PyProof.Rows
/-! ### methods that may raise -/
structure CalMX (P : Program) (w : World) (K : PySem.W.Frag) (mg : Str → Option Value) (base : Heap) (Cl : Addr) (k : Nat) (m : Str) (sp : Sp) : Prop where
  ex : ∃ (f : Addr) (fd : FuncData) (ps : List Str), FnOk P w K mg base (L2.CX P w) k f fd ps sp ∧ Meth K Cl m f ∧ Binds K fd ps []
section
variable {X : Cx} {P : Program} {w : World} {K : PySem.W.Frag} {mg : Str → Option Value} {base : Heap} {N : List Str} {sc : Scope} {k : Nat} {lv : Bool}
variable {σ : L2.St} {H : Hp} {Q : VK} {pos p apos : Pos} {e o : Expr} {es : List Expr} {Cl : Addr} {m : Str} {j : Nat} {sp : Sp} {W : WX}
theorem methX_of {x qual : Str} {st : Stmt} {f : Addr} {fd : FuncData} {ps : List Str} (N : List Str) (F : Fun K x qual st f fd) (mt : Meth K Cl x f) (b : Binds K fd ps []) (S : FnScope N ps (defScope st)) (len : ∀ vs H Q E, sp vs H Q E → vs.length = ps.length)
    (hbody : ∀ (X : Cx) (H : Hp) (vs : List V) (Q : VK) (E : XK), Kx X P w K mg base N (defScope st) k true → Takes X (fun cls d _ H' => E cls d H') → sp vs H Q E →
      wSs X (defBody st) (fun _ H' => Q .non H') Q (fun _ _ => False) (fun _ _ => False) (start N vs) H) : CalMX P w K mg base Cl (k + 1) x sp := by
  refine ⟨f, fd, ps, F.okX S len fun cdv A outer s H vs Q E hr hsp => ⟨_, pssW, ?_⟩, mt, b⟩
  exact hbody _ H vs Q E ⟨rfl, rfl, rfl, rfl, rfl, rfl, rfl, S.nd, S.kind, rfl, hr, passes_of rfl, fun _ _ => rfl⟩ (takes_of rfl rfl rfl rfl) hsp
theorem e_methX {pl : Sem Bool} (C : Kx X P w K mg base N sc k lv) (c : Cls K Cl) (tk : Takes X W) (M : CalMX P w K mg base Cl j m sp) (h : wE X o σ H fun x H1 => ∃ a dx fs, x = .ref a ∧ H1 a = some (.ins Cl dx fs) ∧ fs.lookup m = none ∧ wA X (e :: es) σ H1 fun vs H2 => sp (x :: vs) H2 Q (fun cls d H' => W cls d σ H')) (hk : j ≤ k := by decide)
    (hst : starEach (e :: es) X.env = (false, eval e X.env) :: starEach es X.env := by rfl) (hpl : (backTo pos (starEach es X.env)).any (·.1) = false := by rfl)
    (ht : eval (.Call (.Attribute o m apos) (e :: es) [] pos) X.env = (do
      let ov ← eval o X.env
      standAt apos.atName
      let (f, first) ← holding [ov] (getMethod ov m pl)
      callWith pos f first (backTo pos (starEach (e :: es) X.env)) (backToKw pos (keywordEach [] X.env))) := by rfl) :
    wE X (.Call (.Attribute o m apos) (e :: es) [] pos) σ H Q := by
  have e1 := C.eprog; have e2 := C.ew; have e3 := C.eK; have e4 := C.emg; have e5 := C.ebase
  subst e1 e2 e3 e4 e5
  obtain ⟨f, fd, ps, F, hm, hb⟩ := M.ex
  refine ⟨fun pins s I => ?_⟩
  refine PySem.W.methodCall_KW (pl := pl) (thn (h.run pins s I) fun u s1 z => ?_) ht
  obtain ⟨x, H1, I1, rx, a, dx, fs, ex, ea, l, q⟩ := z
  subst ex
  obtain rfl : u = Value.ref a := rx
  refine getmeth_ok I1 ea c hm l ?_
  refine PySem.W.callWith_K (first := [.ref a]) (h₀ := X.base) I.ok.mod.kin hm.kp (thn (q.run pos pins s1 I1) fun us s2 z => ?_) hst hpl
  obtain ⟨vs, H2, I2, r, q2⟩ := z
  exact ⟨I2.kIn, run_fnS (E := fun σ cls d H' => W cls d σ H') (us := .ref a :: us) (vs := .ref a :: vs) F (C.room.mono hk) hb (passAt tk σ) I2 (.cons rfl r) q2⟩
end
/-! ### a text that is none -/
section
variable {X : Cx} {P : Program} {w : World} {K : PySem.W.Frag} {mg : Str → Option Value} {base : Heap} {N : List Str} {sc : Scope} {k : Nat} {lv : Bool} {H : Hp} {Q : VK}
theorem kb_ns : kitB "NoneType" "str" = some false := by decide +kernel
theorem isi_ns (C : Kx X P w K mg base N sc k lv) (h : Q (.bl false) H) : wC X (.builtin "isinstance") [.non, .ty "str"] H Q := c_isi C (t := "NoneType") (.base .non) kb_ns h
end
def sp_need_textX (S : Xs) : Sp := fun vs H _ E => vs = [.non] ∧ ∀ H', Ex H H' → E (.ref S.c4) none H'
def sp_feedX (K : PySem.W.Frag) (Cl : Addr) (S : Xs) : Sp := fun vs H _ E => ∃ a dx fs, vs = [.ref a, .non] ∧ H a = some (.ins Cl dx fs) ∧ ∀ H', Ex H H' → E (.ref S.c4) none H'
end DP
set_option Elab.async false
set_option linter.all false
set_option maxRecDepth 100000
set_option maxHeartbeats 1000000
namespace DP
open PySem L2
/-- books, rows, a reader and its copy -/
structure B09 (K : PySem.W.Frag) (H : Hp) (Cl : Addr) (pss : List (List Str)) (y0 y1 : Int) (pt rw bk o tx o2 tx2 : Addr) (zs0 xs zs : List V) (L1 L2 : List Addr) (ts : List Str) : Prop where
  pt : H pt = some (.tup zs0)
  pz : PatsV K H pss zs0
  rows : H rw = some (.lst xs)
  rv : RowsV K H (rowsIn y0 y1) xs
  bks : H bk = some (.lst zs)
  tabs : Paired (TabL K H (datesIn y0 y1) L1) pss zs
  live : ∀ l ∈ L1, ∃ ws, H l = some (.lst ws)
  r1 : RdrV K H Cl (datesIn y0 y1) pss o tx L2 ts
  r2 : RdrV K H Cl (datesIn y0 y1) pss o2 tx2 L2 []
/-- what is not the same -/
structure D09 (rw bk tx tx2 : Addr) (L1 L2 : List Addr) (z : Addr) : Prop where
  h1 : z ≠ rw
  h2 : z ≠ bk
  h3 : z ∉ L1
  h4 : z ∉ L2
  h5 : z ≠ tx
  h6 : z ≠ tx2
section
variable {K : PySem.W.Frag} {H H' : Hp} {Cl : Addr} {pss : List (List Str)} {y0 y1 : Int} {pt rw bk o tx o2 tx2 z : Addr} {zs0 xs zs ys : List V} {L1 L2 : List Addr} {ts ts' : List Str}
theorem B09.ex (e : Ex H H') (h : B09 K H Cl pss y0 y1 pt rw bk o tx o2 tx2 zs0 xs zs L1 L2 ts) : B09 K H' Cl pss y0 y1 pt rw bk o tx o2 tx2 zs0 xs zs L1 L2 ts :=
  ⟨e _ _ h.pt, h.pz.tk (Tk.of e), e _ _ h.rows, h.rv.tk (Tk.of e), e _ _ h.bks, Paired.mapP h.tabs fun _ _ q => q.ex e, fun l hl => let ⟨ws, hw⟩ := h.live l hl; ⟨ws, e _ _ hw⟩, h.r1.keep e, h.r2.keep e⟩
theorem B09.bt (b : Bt z H H') (hz : H z = some (.lst ys)) (d : D09 rw bk tx tx2 L1 L2 z) (h : B09 K H Cl pss y0 y1 pt rw bk o tx o2 tx2 zs0 xs zs L1 L2 ts) : B09 K H' Cl pss y0 y1 pt rw bk o tx o2 tx2 zs0 xs zs L1 L2 ts :=
  ⟨(Tk.bt b hz).1 _ _ h.pt, h.pz.tk (Tk.bt b hz), b _ _ d.h1.symm h.rows, h.rv.tk (Tk.bt b hz), b _ _ d.h2.symm h.bks, Paired.mapP h.tabs fun _ _ q => q.bt b hz d.h3, fun l hl => let ⟨ws, hw⟩ := h.live l hl; ⟨ws, b _ _ (fun e => d.h3 (e ▸ hl)) hw⟩, h.r1.bt b hz d.h4 d.h5, h.r2.bt b hz d.h4 d.h6⟩
theorem B09.feed (b : Bt tx H H') (r : RdrV K H' Cl (datesIn y0 y1) pss o tx L2 ts') (n1 : tx ≠ rw) (n2 : tx ≠ bk) (n3 : tx ∉ L1) (n4 : tx ≠ tx2) (h : B09 K H Cl pss y0 y1 pt rw bk o tx o2 tx2 zs0 xs zs L1 L2 ts) : B09 K H' Cl pss y0 y1 pt rw bk o tx o2 tx2 zs0 xs zs L1 L2 ts' :=
  ⟨(Tk.bt b h.r1.txs).1 _ _ h.pt, h.pz.tk (Tk.bt b h.r1.txs), b _ _ n1.symm h.rows, h.rv.tk (Tk.bt b h.r1.txs), b _ _ n2.symm h.bks, Paired.mapP h.tabs fun _ _ q => q.bt b h.r1.txs n3, fun l hl => let ⟨ws, hw⟩ := h.live l hl; ⟨ws, b _ _ (fun e => n3 (e ▸ hl)) hw⟩, r, h.r2.bt b h.r1.txs h.r1.nin n4⟩
end
theorem fits_nil (pss : List (List Str)) (ds : List Dt) : fits pss ds [] = List.range pss.length := by
  unfold fits
  rw [List.filter_eq_self]
  intro a _
  rfl
theorem fits_step (pss : List (List Str)) (ds : List Dt) (ts : List Str) (t : Str) : (fits pss ds ts).filter (fun i => has (pss.getD i []) ds t) = fits pss ds (ts ++ [t]) := by
  unfold fits
  rw [List.filter_filter]
  congr 1
  funext i
  rw [List.all_append, List.all_cons, List.all_nil, Bool.and_true, Bool.and_comm]
end DP
set_option Elab.async false
set_option linter.all false
set_option maxRecDepth 100000
set_option maxHeartbeats 1000000
namespace DP
open PySem L2 PyProof.Rows
section
variable {X : Cx} {P : Program} {w : World} {K : PySem.W.Frag} {mg : Str → Option Value} {base : Heap} {N : List Str} {sc : Scope} {k : Nat} {lv : Bool}
variable {σ : L2.St} {H : Hp} {Q : VK} {pos apos cpos : Pos} {a b e e1 e2 o : Expr}
/-- x or y, as values -/
theorem e_orV (C : Kx X P w K mg base N sc k lv) (h : wE X a σ H fun x H1 => ∃ k, TruV K x H1 k ∧ if k = true then Q x H1 else wE X b σ H1 Q) : wE X (.BoolOp .Or [a, b] pos) σ H Q := by
  have e3 := C.eK; subst e3
  refine goE (pe_orT peW peW) ?_
  refine wE_mono (fun x H1 ⟨k, h1, h2⟩ => ⟨k, h1, ?_⟩) h
  cases k with
  | true => exact h2
  | false => exact e_one h2
/-- xs.insert(i, y) -/
theorem m_ins (h : wE X o σ H fun x H1 => ∃ l xs, x = .ref l ∧ H1 l = some (.lst xs) ∧ wE X e1 σ H1 fun u H2 => ∃ i : Nat, u = nI i ∧ i < 1000000 ∧ wE X e2 σ H2 fun v H3 => ∃ ys, H3 l = some (.lst ys) ∧ ys.length < sizeLine ∧ Q .non (upd H3 l (.lst (ys.take i ++ [v] ++ ys.drop i))))
    (hbase : attributeBase o "insert" X.env (eval o X.env) = eval o X.env := by rfl)
    (hfew : ((backTo cpos (starEach [e1, e2] X.env)).all (fun x => !x.1) && (backToKw cpos (keywordEach [] X.env)).all (fun x => x.1.isSome)
      && decide ([e1, e2].length + ([] : List Keyword).length + (if ([] : List Keyword).isEmpty then 0 else 1) < 30)) = true := by rfl)
    (hline : (apos.endLine == cpos.line) = true := by rfl) (hs : starEach [e1, e2] X.env = (false, eval e1 X.env) :: starEach [e2] X.env := by rfl) (hs2 : starEach [e2] X.env = (false, eval e2 X.env) :: starEach [] X.env := by rfl) (hplain : (backTo cpos (starEach [e2] X.env)).any (·.1) = false := by rfl) :
    wE X (.Call (.Attribute o "insert" apos) [e1, e2] [] cpos) σ H Q :=
  e_bm PySem.F.plainAttrs_list PySem.F.slot_list_insert PySem.F.type_list_insert (wE_mono (fun x H1 ⟨l, xs, ev, hH, q⟩ => by
    subst ev
    exact ⟨ty_lst hH, a_cons (wE_mono (fun u H2 ⟨i, ev, hi, q⟩ => by
      subst ev
      exact a_cons (wE_mono (fun v H3 ⟨ys, h3, hl, q⟩ => a_nil (goM mt_insert ⟨l, ys, (i : Int), v, rfl, rfl, h3, hl, by omega, by omega, by rw [show ((i : Nat) : Int).toNat = i by omega]; exact q⟩)) q) hs2) q) hs⟩) h) hbase hfew hline hs hplain
end
/-! ### what many lists hold -/
/-- the list's items are such data, and stay so -/
def El (K : PySem.W.Frag) (H : Hp) (zs : List V) (es : List PyData) : Prop := ∀ H', Tk H H' → DpAll K H' zs es
section
variable {K : PySem.W.Frag} {H H' : Hp} {zs : List V} {es : List PyData}
theorem El.tk (t : Tk H H') (h : El K H zs es) : El K H' zs es := fun H2 t2 => h H2 (t.trans t2)
theorem el_dates {ds : List Dt} (h : DatesV K H ds zs) : El K H zs (ds.map dD) := fun _ t => dpA_dates (h.tk t)
theorem dpA_nats (l : List Nat) : DpAll K H (l.map nI) (l.map fun (n : Nat) => PyData.int (n : Int)) := by
  induction l with
  | nil => exact .nil
  | cons a l ih => exact .cons (.int _) ih
theorem el_ints (l : List Nat) : El K H (l.map nI) (l.map fun (n : Nat) => PyData.int (n : Int)) := fun _ _ => dpA_nats l
theorem el_keys (l : List Key) : El K H (l.map kV) (l.map kD) := fun _ _ => dpA_keys l
theorem el_strs (l : List Str) : El K H (l.map V.str) (l.map PyData.str) := fun _ _ => dpA_strs l
theorem el_rai {p : Addr} {i : Nat} (h : H p = some (.tup [.str "raised", nI i])) : El K H [.ref p] [rD i] := fun _ t => .cons (dp_raised (SqT.of (t.1 _ _ h))) .nil
end
/-- the lists at L hold such data -/
def Ls (K : PySem.W.Frag) (H : Hp) (ess : List (List PyData)) (L : List Addr) : Prop := Paired (fun es l => ∃ zs, H l = some (.lst zs) ∧ zs.length ≤ 5000 ∧ El K H zs es) ess L
theorem Ls.ex {K : PySem.W.Frag} {H H' : Hp} {ess : List (List PyData)} {L : List Addr} (x : Ex H H') (h : Ls K H ess L) : Ls K H' ess L := Paired.mapP h fun _ _ ⟨zs, h1, h2, h3⟩ => ⟨zs, x _ _ h1, h2, h3.tk (Tk.of x)⟩
/-- all but the objects of L stay -/
def BtL (L : List Addr) (H H' : Hp) : Prop := ∀ a o, a ∉ L → H a = some o → H' a = some o
theorem BtL.ls {K : PySem.W.Frag} {H H' : Hp} {ess : List (List PyData)} {L L2 : List Addr} (b : BtL L H H') (t : Tk H H') (d : ∀ l ∈ L2, l ∉ L) (h : Ls K H ess L2) : Ls K H' ess L2 := by
  induction h with
  | nil => exact .nil
  | cons h1 h2 ih =>
    obtain ⟨zs, e1, e2, e3⟩ := h1
    exact .cons ⟨zs, b _ _ (d _ (by simp)) e1, e2, e3.tk t⟩ (ih fun l hl => d l (by simp [hl]))
theorem BtL.tk {H H' : Hp} {L : List Addr} (b : BtL L H H') (h : ∀ l ∈ L, ∃ zs, H l = some (.lst zs)) : Tk H H' := ⟨fun a xs e => b a _ (fun z => by obtain ⟨zs, hz⟩ := h a z; rw [e] at hz; cases hz) e, fun a o u e => b a _ (fun z => by obtain ⟨zs, hz⟩ := h a z; rw [e] at hz; cases hz) e⟩
theorem Ls.dp {K : PySem.W.Frag} {H : Hp} {ess : List (List PyData)} {L : List Addr} {p : Addr} (hp : H p = some (.lst (L.map V.ref))) (h : Ls K H ess L) : Dp K H (.ref p) (.list (ess.map PyData.list)) := by
  refine .lst (SqL.of hp) ?_
  clear hp
  induction h with
  | nil => exact .nil
  | cons h1 h2 ih =>
    obtain ⟨zs, e1, e2, e3⟩ := h1
    exact .cons (.lst (SqL.of e1) (e3 _ (Tk.of (Ex.refl _)))) ih
/-! ### greedy, and the many answers -/
def sp_greedyX (K : PySem.W.Frag) (S : Xs) : Sp := fun vs H Q E => ∃ v ps t, vs = [v, .str t] ∧ StrsV K H ps v ∧ small ps ∧ isPat ps = true ∧ t.length ≤ 2000000 ∧ (∀ l p H', gRes ps (cs t) = some l → H p = none → Ex H H' → H' p = some (.lst (l.map kV)) → Q (.ref p) H') ∧ (gRes ps (cs t) = none → ∀ H', Ex H H' → E (.ref S.c5) none H')
/-- what the law holds of a greedy reader's answer -/
def grE : Option (List Key) → List PyData
  | none => [rD 5]
  | some l => l.map kD
def sp_lgreedy (K : PySem.W.Frag) : Sp := fun vs H Q _ => ∃ v ps t, vs = [v, .str t] ∧ StrsV K H ps v ∧ small ps ∧ isPat ps = true ∧ t.length ≤ 2000000 ∧ ∀ p zs H', H p = none → Ex H H' → H' p = some (.lst zs) → zs.length ≤ 5000 → El K H' zs (grE (gRes ps (cs t))) → Q (.ref p) H'
def barE : Option (List Nat) → List PyData
  | none => []
  | some l => l.map fun (n : Nat) => PyData.int (n : Int)
def iE (l : List Nat) : List PyData := l.map fun (n : Nat) => PyData.int (n : Int)
/-- the answers -/
def ansE (ps : List Str) (y0 y1 : Int) (ts : List Str) : List (List PyData) :=
  [(datesIn y0 y1).map dD, (reads ps y0 y1 (ts.getD 0 "")).map dD, barE (barsOf ps (datesIn y0 y1)), grE (gRes ps (cs (ts.getD 0 ""))), iE (fits [ps, ps] (datesIn y0 y1) ts), iE (fits [ps] (datesIn y0 y1) [ts.getD 0 ""]), iE (fits [ps] (datesIn y0 y1) [ts.getD 0 ""]), (uncOf [ps] (datesIn y0 y1) [ts.getD 0 ""]).map PyData.str]
def sp_answers (K : PySem.W.Frag) : Sp := fun vs H Q _ => ∃ v ps u y0 y1 tt ts, vs = [v, u, .ref tt] ∧ StrsV K H ps v ∧ LPat 5 ps ∧ SpanV K H y0 y1 u ∧ isSp y0 y1 = true ∧ H tt = some (.lst (ts.map V.str)) ∧ 1 ≤ ts.length ∧ ts.length ≤ 3 ∧ (∀ t ∈ ts, PyData.strOk t = true ∧ t.length ≤ 2000000) ∧ ∀ p L H', H p = none → (∀ l ∈ L, H l = none) → p ∉ L → Ex H H' → H' p = some (.lst (L.map V.ref)) → Ls K H' (ansE ps y0 y1 ts) L → Q (.ref p) H'
theorem gRes_len : ∀ {ps : List Str} {t : List Nat} {l : List Key}, gRes ps t = some l → l.length ≤ ps.length
  | [], t, l, h => by
    unfold gRes at h
    split at h
    · cases h; exact Nat.le_refl _
    · cases h
  | p :: ps, t, l, h => by
    unfold gRes at h
    split at h
    · cases h
    · rename_i v k hk
      cases hr : gRes ps (t.drop k) with
      | none => rw [hr] at h; cases h
      | some r =>
        rw [hr] at h
        have ih := gRes_len hr
        cases h
        show (if isField p = true then v :: r else r).length ≤ _
        split <;> simp <;> omega
theorem bars_len14 {ps : List Str} {ds : List Dt} {l : List Nat} (h : barsOf ps ds = some l) : l.length ≤ ps.length := by
  unfold barsOf at h
  split at h
  · cases h
    cases hf : (barL (ps.length - 1)).find? (okB ps ds) with
    | none => simp
    | some r =>
      have := (barL_iff.mp (List.mem_of_find?_eq_some hf)).2
      show r.length ≤ _
      omega
  · cases h
/-- a list of lists that grows; nothing older is touched -/
structure SA (K : PySem.W.Frag) (H0 H : Hp) (fo : Addr) (ess : List (List PyData)) (L : List Addr) : Prop where
  x : Ex H0 H
  lst : H fo = some (.lst (L.map V.ref))
  ls : Ls K H ess L
  nf : H0 fo = none
  nl : ∀ l ∈ L, H0 l = none
  nin : fo ∉ L
section
variable {K : PySem.W.Frag} {H0 H H' : Hp} {fo t : Addr} {ess ess2 : List (List PyData)} {L L2 : List Addr}
theorem SA.ex (e : Ex H H') (h : SA K H0 H fo ess L) : SA K H0 H' fo ess L := ⟨Ex.trans h.x e, e _ _ h.lst, h.ls.ex e, h.nf, h.nl, h.nin⟩
theorem BtL.of {H H' : Hp} {t : Addr} (b : Bt t H H') : BtL [t] H H' := fun a o n e => b a o (fun z => n (by simp [z])) e
theorem SA.bt {ys : List V} (b : Bt t H H') (ht : H t = some (.lst ys)) (n : H0 t = none) (n1 : t ≠ fo) (n2 : t ∉ L) (h : SA K H0 H fo ess L) : SA K H0 H' fo ess L :=
  ⟨b.ex h.x n, b _ _ n1.symm h.lst, BtL.ls (BtL.of b) (Tk.bt b ht) (fun l hl z => n2 (by rw [← List.mem_singleton.mp z]; exact hl)) h.ls, h.nf, h.nl, h.nin⟩
theorem SA.ext (h : SA K H0 H fo ess L) (h2 : Ls K H ess2 L2) (n : ∀ l ∈ L2, H0 l = none) (nin : fo ∉ L2) : SA K H0 (upd H fo (.lst (L.map V.ref ++ L2.map V.ref))) fo (ess ++ ess2) (L ++ L2) :=
  ⟨h.x.mut h.nf, by rw [upd_same, List.map_append], paired_app
    (BtL.ls (L := [fo]) (BtL.of Bt.upd) (Tk.lst h.lst) (fun l hl z => h.nin (by rw [← List.mem_singleton.mp z]; exact hl)) h.ls)
    (BtL.ls (L := [fo]) (BtL.of Bt.upd) (Tk.lst h.lst) (fun l hl z => nin (by rw [← List.mem_singleton.mp z]; exact hl)) h2), h.nf, fun l hl => by
      rcases List.mem_append.mp hl with h1 | h1
      · exact h.nl l h1
      · exact n l h1, fun z => by
      rcases List.mem_append.mp z with h1 | h1
      · exact h.nin h1
      · exact nin h1⟩
theorem ls1 {l : Addr} {zs : List V} {es : List PyData} (h : H l = some (.lst zs)) (hl : zs.length ≤ 5000) (he : El K H zs es) : Ls K H [es] [l] := .cons ⟨zs, h, hl, he⟩ .nil
end
section
variable {X : Cx} {P : Program} {w : World} {K : PySem.W.Frag} {mg : Str → Option Value} {base : Heap} {N : List Str} {sc : Scope} {k j : Nat} {lv : Bool}
variable {σ : L2.St} {H : Hp} {Q : VK} {pos : Pos} {Cl : Addr}
theorem e_readerA {e : Expr} {es : List Expr} {p : Pos} (C : Kx X P w K mg base N sc k lv) (R : RdC K mg Cl) (M : CalI P w K mg base Cl j (sp_init K Cl)) (h : wA X (e :: es) σ H fun vs H1 => ∃ v u pss y0 y1, vs = [v, u] ∧ PtsV K H1 pss v ∧ okPs pss ∧ SpanV K H1 y0 y1 u ∧ isSp y0 y1 = true ∧
      ∀ o tx L H', H1 o = none → H1 tx = none → (∀ l ∈ L, H1 l = none) → Ex H1 H' → RdrV K H' Cl (datesIn y0 y1) pss o tx L [] → Q (.ref o) H')
    (hk : j + 1 ≤ k := by decide) (hg : sc.names.lookup ("Reader" : Str) = some .globalImplicit := by rfl)
    (he : starEach (e :: es) X.env = (false, eval e X.env) :: starEach es X.env := by rfl) (hpl : (backTo pos (starEach es X.env)).any (·.1) = false := by rfl) :
    wE X (.Call (.Name "Reader" p) (e :: es) [] pos) σ H Q := by
  refine e_make C R.mgC M (wA_mono (fun vs H1 z => ?_) h) hk hg (by decide) he hpl
  obtain ⟨v, u, pss, y0, y1, rfl, hp, ho, hd, hs, q⟩ := z
  intro xo dx nxo ndx hne
  have xm : Ex H1 (upd (upd H1 dx (.own xo)) xo (.ins Cl dx [])) := Ex.trans (Ex.new ndx) (Ex.new (by rw [upd_ne hne.symm]; exact nxo))
  refine u_init upd_same (hp.tk (Tk.of xm)) ho (hd.tk (Tk.of xm)) hs fun H5 tx L hb5 hR5 ntx hL => ⟨rfl, ?_⟩
  exact q xo tx L H5 nxo (Ex.back xm ntx) (fun l hl => Ex.back xm (hL l hl)) (Bt.ex hb5 xm nxo) hR5
end
/-- bars(..) or []: a new list in either case -/
theorem or_bars {X : Cx} {K : PySem.W.Frag} {σ : L2.St} {H H' : Hp} {Q : VK} {b : Expr} {o : Option (List Nat)} {r : V} (hr : OptL H H' o r)
    (hb : ∀ Q : VK, (∀ p H2, H' p = none → Ex H' H2 → H2 p = some (.lst []) → Q (.ref p) H2) → wE X b σ H' Q)
    (q : ∀ p zs H2, (H p = none ∨ H' p = none) → Ex H' H2 → H2 p = some (.lst zs) → (∀ l, o = some l → zs.length ≤ l.length) → (o = none → zs = []) → El K H2 zs (barE o) → Q (.ref p) H2) : ∃ k, TruV K r H' k ∧ if k = true then Q r H' else wE X b σ H' Q := by
  cases o with
  | none =>
    cases (show r = .non from hr)
    exact ⟨false, rfl, hb _ fun p H2 np x e => q p [] H2 (.inr np) x e (by simp) (fun _ => rfl) (fun _ _ => .nil)⟩
  | some l =>
    obtain ⟨p, rfl, np, hp⟩ := hr
    refine ⟨!(l.map nI).isEmpty, .inl ⟨_, SqL.of hp, rfl⟩, ?_⟩
    cases l with
    | nil => exact hb _ fun p H2 np x e => q p [] H2 (.inr np) x e (by simp) (fun _ => rfl) (fun _ _ => .nil)
    | cons a l => exact q p _ H' (.inl np) (Ex.refl _) hp (fun l e => by cases e; simp) (fun e => by cases e) (el_ints _)
end DP
set_option Elab.async false
set_option linter.all false
set_option maxRecDepth 100000
set_option maxHeartbeats 1000000
namespace DP
open PySem L2 PyProof.Rows
section
variable {X : Cx} {P : Program} {w : World} {K : PySem.W.Frag} {mg : Str → Option Value} {base : Heap} {N : List Str} {sc : Scope} {k : Nat} {lv : Bool}
variable {σ : L2.St} {H : Hp} {Q : VK} {p pos apos cpos : Pos} {tg e1 e2 e3 : Expr}
/-- over range(i, j, c) -/
theorem z_R3 {R : Nat → (Hp → Prop) → (Nat → Hp → V → Hp → Prop) → Hp → Prop} (C : Kx X P w K mg base N sc k lv) (B : Bn mg) (h : wE X e1 σ H fun v H1 => wE X e2 σ H1 fun u H2 => wE X e3 σ H2 fun x H3 => ∃ (i j c : Int) (n : Nat), v = .int i ∧ u = .int j ∧ x = .int c ∧ RgC i j c n ∧ R n (fun _ => True) (YFn fun m => .int (i + (m : Nat) * c)) H3)
    (hg : sc.names.lookup ("range" : Str) = some .globalImplicit := by rfl) (hs : starEach [e1, e2, e3] X.env = (false, eval e1 X.env) :: starEach [e2, e3] X.env := by rfl) (hs2 : starEach [e2, e3] X.env = (false, eval e2 X.env) :: starEach [e3] X.env := by rfl) (hs3 : starEach [e3] X.env = (false, eval e3 X.env) :: starEach [] X.env := by rfl) (hpl : (backTo pos (starEach [e2, e3] X.env)).any (·.1) = false := by rfl) : wI X tg (.Call (.Name "range" p) [e1, e2, e3] [] pos) σ H (SrcI R) :=
  goI (pi_range3 (C.gl hg) (by rw [C.emg]; exact B.n_range) (pa_cons peW (pa_cons peW (pa_cons peW pa_nil hs3) hs2) hs) hs hpl) (show wE X e1 σ H fun v H1 => wE X e2 σ H1 fun u H2 => wE X e3 σ H2 fun x H3 => ∃ (i j c : Int) (n : Nat), [v, u, x] = [.int i, .int j, .int c] ∧ RgC i j c n ∧ SrcI R (Itc i c n) H3 from
    wE_mono (fun v H1 q => wE_mono (fun u H2 q => wE_mono (fun x H3 ⟨i, j, c, n, a1, a2, a3, hr, q⟩ => ⟨i, j, c, n, by rw [a1, a2, a3], hr, _, _, _, walk_rangeC, q⟩) q) q) h)
theorem m_starts {x y : Str} (h : Q (.bl (Txt.startswith x y)) H) : wM X "str.startswith" (.str x) [.str y] H Q := goM mt_startswith ⟨x, y, rfl, rfl, h⟩
end
theorem starts_iff (x y : Str) : Txt.startswith x y = decide ((cs x).take y.length = cs y) := by
  unfold Txt.startswith
  rw [PySem.StrLaws.subAt_eq, List.drop_zero]
  show (decide (0 + y.length ≤ x.length) && ((cs x).take y.length == cs y)) = _
  by_cases h : (cs x).take y.length = cs y
  · have h1 := congrArg List.length h
    rw [List.length_take] at h1
    have h2 : (cs y).length = y.length := cs_len y
    have h3 : (cs x).length = x.length := cs_len x
    rw [decide_eq_true h, decide_eq_true (by omega), h]
    simp
  · rw [decide_eq_false h, Bool.and_eq_false_iff]
    exact .inr (by simpa using h)
theorem ST_len (l : List Nat) : (ST l).length = l.length := by show l.toArray.size = _; simp
theorem cutS_to (l : List Nat) (k : Nat) : cutS (ST l) none (some (k : Int)) = ST (l.take k) := by
  have := cutS_at (ST l) 0 k (Nat.zero_le _)
  unfold cutS at this ⊢
  have e1 : HT.sIx (ST l).length 0 (some ((0 : Nat) : Int)) = 0 := by rw [HT.sIx_nat]; omega
  have e0 : HT.sIx (ST l).length 0 none = 0 := rfl
  rw [e1, show (((0 : Nat) : Int) + (k : Int)) = (k : Int) by omega] at this
  rw [e0, this, cs_ST, List.drop_zero]
theorem cutS_from (l : List Nat) (j : Nat) : cutS (ST l) (some (j : Int)) none = ST (l.drop j) := by
  unfold cutS
  have e1 : HT.sIx (ST l).length 0 (some (j : Int)) = min j (ST l).length := by rw [HT.sIx_nat]
  have e0 : HT.sIx (ST l).length (ST l).length none = (ST l).length := rfl
  rw [e1, e0, ST_len]
  show (⟨_⟩ : Str) = ⟨_⟩
  congr 1
  apply Array.ext'
  simp
  rcases Nat.le_total j l.length with h | h
  · rw [Nat.min_eq_left h, List.take_of_length_le (by rw [List.length_drop]; omega)]
  · rw [Nat.min_eq_right h, List.drop_eq_nil_of_le h, List.drop_length]
    simp
theorem ST_empty {l : List Nat} : ST l = ("" : Str) ↔ l = [] := by
  constructor
  · intro h
    have := congrArg cs h
    rw [cs_ST] at this
    exact this.trans (by decide +kernel)
  · rintro rfl; decide +kernel
theorem gRes_none {ps : List Str} {p : Str} {L : List Nat} (h : gTake p L = none) : gRes (p :: ps) L = none := by
  unfold gRes; rw [h]
theorem gRes_some {ps : List Str} {p : Str} {L : List Nat} {key : Key} {j : Nat} (h : gTake p L = some (key, j)) : gRes (p :: ps) L = (gRes ps (L.drop j)).map fun r => if isField p = true then key :: r else r := by
  conv => lhs; unfold gRes
  rw [h]
def sp_lgr6 (K : PySem.W.Frag) : Sp := fun vs H Q _ => ∃ v ps t, vs = [v, .str t] ∧ StrsV K H ps v ∧ small ps ∧ (∀ p ∈ ps, okPart p) ∧ t.length ≤ 2000000 ∧ ∀ r H', Ex H H' → GrV H' (gRes ps (cs t)) r → Q r H'
section
variable {X : Cx} {σ : L2.St} {H : Hp} {Q : VK} {o e : Expr} {apos cpos : Pos}
/-- text.startswith(e) -/
theorem e_starts (h : wE X o σ H fun x H1 => ∃ a, x = .str a ∧ wE X e σ H1 fun y H2 => ∃ b, y = .str b ∧ Q (.bl (Txt.startswith a b)) H2)
    (hbase : attributeBase o "startswith" X.env (eval o X.env) = eval o X.env := by rfl)
    (hfew : ((backTo cpos (starEach [e] X.env)).all (fun x => !x.1) && (backToKw cpos (keywordEach [] X.env)).all (fun x => x.1.isSome)
      && decide ([e].length + ([] : List Keyword).length + (if ([] : List Keyword).isEmpty then 0 else 1) < 30)) = true := by rfl)
    (hline : (apos.endLine == cpos.line) = true := by rfl) (hs : starEach [e] X.env = (false, eval e X.env) :: starEach [] X.env := by rfl) (hplain : (backTo cpos (starEach [] X.env)).any (·.1) = false := by rfl) :
    wE X (.Call (.Attribute o "startswith" apos) [e] [] cpos) σ H Q :=
  e_bm PySem.F.plainAttrs_str PySem.F.slot_str_startswith PySem.F.type_str_startswith (wE_mono (fun x H1 ⟨a, e0, q⟩ => by subst e0; exact ⟨ty_str, a_cons (wE_mono (fun y H2 ⟨b, e1, q⟩ => by subst e1; exact a_nil (m_starts q)) q) hs⟩) h) hbase hfew hline hs hplain
end
/-- the names, three signs each -/
structure NmOk (nm : Str) (l : List Str) : Prop where
  len : nm.length = 3 * l.length
  few : l.length ≤ 12
  rg : RgC 0 (nm.length : Nat) 3 l.length
  at_ : ∀ m < l.length, cutS nm (some (0 + (m : Int) * 3)) (some (0 + (m : Int) * 3 + 3)) = l.getD m ""
theorem nm_wd : NmOk "montuewedthufrisatsun" wdNames := ⟨by decide +kernel, by decide +kernel, ⟨by decide, by decide, by decide +kernel, by decide +kernel⟩, by decide +kernel⟩
theorem nm_mon : NmOk "janfebmaraprmayjunjulaugsepoctnovdec" monNames := ⟨by decide +kernel, by decide +kernel, ⟨by decide, by decide, by decide +kernel, by decide +kernel⟩, by decide +kernel⟩
theorem digit_part {p : Str} (hf : p ∈ fields) (hm : isIn p ["MON", "WD"] = false) : atI p.cps.toList 0 = some ((cs p).headD 0) ∧ (cs p).headD 0 ∈ (("DMYJ" : Str)).cps.toList ∧ (p = "YYYY" → longest p = 4) ∧ (¬ p = "YYYY" → (⟨#[(cs p).headD 0]⟩ : Str) = "J" → longest p = 3) ∧ (¬ p = "YYYY" → ¬ (⟨#[(cs p).headD 0]⟩ : Str) = "J" → longest p = 2) := by
  have : ∀ p ∈ fields, isIn p ["MON", "WD"] = false → atI p.cps.toList 0 = some ((cs p).headD 0) ∧ (cs p).headD 0 ∈ (("DMYJ" : Str)).cps.toList ∧ (p = "YYYY" → longest p = 4) ∧ (¬ p = "YYYY" → (⟨#[(cs p).headD 0]⟩ : Str) = "J" → longest p = 3) ∧ (¬ p = "YYYY" → ¬ (⟨#[(cs p).headD 0]⟩ : Str) = "J" → longest p = 2) := by decide +kernel
  exact this p hf hm
theorem lit_mw {p : Str} (h : isField p = false) : isIn p ["MON", "WD"] = false := by
  cases hm : isIn p ["MON", "WD"] with
  | false => rfl
  | true =>
    have : ∀ p ∈ (["MON", "WD"] : List Str), isField p = true := by decide +kernel
    rw [this p (isIn_iff.mp hm)] at h; cases h
theorem mw_cases {p : Str} (h : isIn p ["MON", "WD"] = true) : p = "MON" ∨ p = "WD" := by simpa using isIn_iff.mp h
theorem ST_snoc {L : List Nat} {j c : Nat} (h : L[j]? = some c) : ST (L.take j) ++ (⟨#[c]⟩ : Str) = ST (L.take (j + 1)) := by
  rw [List.take_add_one, h]
  show (⟨_⟩ : Str) = ⟨_⟩
  congr 1
  simp
theorem take_nil {L : List Nat} {k : Nat} (h : k ≤ L.length) : L.take k = [] ↔ k = 0 := by
  constructor
  · intro e
    have h2 : (L.take k).length = 0 := by rw [e]; rfl
    rw [List.length_take] at h2
    omega
  · rintro rfl; rfl
/-- the place of a part's first sign -/
def dix (p : Str) : Nat := if isIn p ["D", "DD"] = true then 0 else if isIn p ["M", "MM"] = true then 1 else if isIn p ["J", "JJJ"] = true then 3 else 2
theorem digit_ix {p : Str} (hf : p ∈ fields) (hm : isIn p ["MON", "WD"] = false) : Txt.index0 "DMYJ" ⟨#[(cs p).headD 0]⟩ = some (dix p) := by
  have : ∀ p ∈ fields, isIn p ["MON", "WD"] = false → Txt.index0 "DMYJ" ⟨#[(cs p).headD 0]⟩ = some (dix p) := by decide +kernel
  exact this p hf hm
theorem digit_cases {p : Str} (hf : p ∈ fields) (hm : isIn p ["MON", "WD"] = false) : p = "D" ∨ p = "DD" ∨ p = "M" ∨ p = "MM" ∨ p = "YY" ∨ p = "YYYY" ∨ p = "J" ∨ p = "JJJ" := by
  have : ∀ p ∈ fields, isIn p ["MON", "WD"] = false → p = "D" ∨ p = "DD" ∨ p = "M" ∨ p = "MM" ∨ p = "YY" ∨ p = "YYYY" ∨ p = "J" ∨ p = "JJJ" := by decide +kernel
  exact this p hf hm
theorem ival_dix {p : Str} (hf : p ∈ fields) (hm : isIn p ["MON", "WD"] = false) {y m d Y : Int} (hY : Y = if p = "YY" then y % 100 else y) : atI [V.int d, V.int m, V.int Y, V.int (piy (y, m, d))] ((dix p : Nat) : Int) = some (.int (ival p (y, m, d))) := by
  subst hY
  rcases digit_cases hf hm with rfl | rfl | rfl | rfl | rfl | rfl | rfl | rfl <;> rfl
end DP
set_option Elab.async false
set_option linter.all false
set_option maxRecDepth 100000
set_option maxHeartbeats 1000000
namespace DP
open PySem L2 PyProof.Rows
section
variable {X : Cx} {P : Program} {w : World} {K : PySem.W.Frag} {mg : Str → Option Value} {base : Heap} {N : List Str} {sc : Scope} {k j : Nat} {lv : Bool}
variable {σ : L2.St} {H : Hp} {Q : VK} {pos p : Pos} {fe e : Expr} {es : List Expr} {x : Str} {W : WX}
/-- a value that may be called -/
structure Fv (P : Program) (w : World) (K : PySem.W.Frag) (mg : Str → Option Value) (base : Heap) (k : Nat) (v : V) (sp : Sp) : Prop where
  ex : ∃ (f : Addr) (fd : FuncData) (ps : List Str), v = .ref f ∧ FnOk P w K mg base (L2.CX P w) k f fd ps sp ∧ PySem.W.keepIn K (.ref f) = true ∧ Binds K fd ps []
/-- a def's name, read -/
theorem e_fn {sp : Sp} (C : Kx X P w K mg base N sc k lv) (c : CalX P w K mg base j x sp) (h : ∀ v, Fv P w K mg base j v sp → Q v H) (hg : sc.names.lookup x = some .globalImplicit := by rfl) (hd : (x == ("__debug__" : Str)) = false := by decide) : wE X (.Name x pos) σ H Q := by
  obtain ⟨f, fd, ps, F, hm, kp, b⟩ := c.ex
  exact e_glob (v := .ref f) C ⟨_, hm, rfl⟩ (h (.ref f) ⟨f, fd, ps, rfl, F, kp, b⟩) hg hd
/-- a call of a value -/
theorem e_callV (C : Kx X P w K mg base N sc k lv) (tk : Takes X W) (h : wE X fe σ H fun v H1 => ∃ sp, Fv P w K mg base j v sp ∧ wA X (e :: es) σ H1 fun vs H2 => sp vs H2 Q (fun cls d H' => W cls d σ H')) (hk : j ≤ k := by decide)
    (ht : eval (.Call fe (e :: es) [] pos) X.env = (eval fe X.env >>= fun f => callWith pos f [] (backTo pos (starEach (e :: es) X.env)) (backToKw pos (keywordEach [] X.env))) := by rfl)
    (he : starEach (e :: es) X.env = (false, eval e X.env) :: starEach es X.env := by rfl) (hpl : (backTo pos (starEach es X.env)).any (·.1) = false := by rfl) : wE X (.Call fe (e :: es) [] pos) σ H Q := by
  have e1 := C.eprog; have e2 := C.ew; have e3 := C.eK; have e4 := C.emg; have e5 := C.ebase
  subst e1 e2 e3 e4 e5
  refine ⟨fun pins s I => ?_⟩
  rw [ht]
  refine wpAny_bind (thn (h.run pins s I) fun u s1 z => ?_)
  obtain ⟨v, H1, I1, rx, sp, hF, q⟩ := z
  obtain ⟨f, fd, ps, rfl, F, kp, b⟩ := hF.ex
  obtain rfl : u = Value.ref f := rx
  refine PySem.W.callWith_K (first := []) (h₀ := X.base) I1.ok.mod.kin kp (thn (q.run pos pins s1 I1) fun us s2 z => ?_) he hpl
  obtain ⟨vs, H2, I2, r, q2⟩ := z
  exact ⟨I2.kIn, run_fnS (E := fun σ cls d H' => W cls d σ H') (us := us) (vs := vs) F (C.room.mono hk) b (passAt tk σ) I2 r q2⟩
end
end DP
set_option Elab.async false
set_option linter.all false
set_option maxRecDepth 100000
set_option maxHeartbeats 1000000
namespace DP
open PySem L2 PyProof.Rows
/-! ### patterns as text, plainly -/
def fmtP (p : Str) : Str := if isField p = true then ("<" : Str) ++ p ++ (">" : Str) else p
def fmt (ps : List Str) : Str := Txt.join "" (ps.map fmtP)
def partsOf (t : Str) : List Str := match Txt.split t "<" with
  | [] => []
  | p0 :: r => p0 :: r.flatMap fun p => [(Txt.partition p ">").1, (Txt.partition p ">").2.2]
def P10 (t : Str) : List Str := (partsOf t).filter fun p => !decide (p = "")
def parse (t : Str) : Option (List Str) := if isPat (P10 t) = true ∧ fmt (P10 t) = t then some (P10 t) else none
theorem bad_texts : ∀ t ∈ (["", "<>", "<DDD>", "<D", "D>", "D", "<d>", "<D>x", "x<D>", "<<D>>", "<D>>", "----", "<D>----<M>", "<D><D><D><D><D><D><D><D>", "<M M>", "|"] : List Str), parse t = none := by decide +kernel
theorem good_texts : parse " -/" = some ([" -/"] : List Str) ∧ parse "<D><D>.,:<YYYY>" = some (["D", "D", ".,:", "YYYY"] : List Str) := by decide +kernel
/-! ### a text cut at a sign: the pieces are told by what they are -/
def jnC (c : Nat) : List (List Nat) → List Nat
  | [] => []
  | [a] => a
  | a :: b :: r => a ++ c :: jnC c (b :: r)
theorem cut_inj {c : Nat} : ∀ {a b x y : List Nat}, c ∉ a → c ∉ b → a ++ c :: x = b ++ c :: y → a = b ∧ x = y
  | [], [], x, y, _, _, h => by simpa using h
  | [], b :: bs, x, y, _, hb, h => by
    simp at h
    exact absurd (by simp [h.1]) hb
  | a :: as, [], x, y, ha, _, h => by
    simp at h
    exact absurd (by simp [h.1]) ha
  | a :: as, b :: bs, x, y, ha, hb, h => by
    simp at h
    have ih := cut_inj (fun z => ha (by simp [z])) (fun z => hb (by simp [z])) h.2
    exact ⟨by rw [h.1, ih.1], ih.2⟩
theorem cut_no {c : Nat} {a b x : List Nat} (ha : c ∉ a) (h : a = b ++ c :: x) : False := ha (by rw [h]; simp)
theorem jnC_inj {c : Nat} : ∀ {l m : List (List Nat)}, l ≠ [] → m ≠ [] → (∀ a ∈ l, c ∉ a) → (∀ a ∈ m, c ∉ a) → jnC c l = jnC c m → l = m
  | [], _, h, _, _, _, _ => absurd rfl h
  | _, [], _, h, _, _, _ => absurd rfl h
  | [a], [b], _, _, _, _, h => by rw [show a = b from h]
  | [a], b :: b2 :: r, _, _, ha, _, h => (cut_no (ha a (by simp)) h).elim
  | a :: a2 :: r, [b], _, _, _, hb, h => (cut_no (hb b (by simp)) h.symm).elim
  | a :: a2 :: r, b :: b2 :: s, _, _, ha, hb, h => by
    have e := cut_inj (ha a (by simp)) (hb b (by simp)) h
    rw [e.1, jnC_inj (l := a2 :: r) (m := b2 :: s) (by simp) (by simp) (fun z hz => ha z (List.mem_cons_of_mem _ hz)) (fun z hz => hb z (List.mem_cons_of_mem _ hz)) e.2]
theorem cs_join (c : Nat) : ∀ l : List Str, cs (Str.join ⟨#[c]⟩ l) = jnC c (l.map cs)
  | [] => rfl
  | [a] => rfl
  | a :: b :: r => by
    have ih := cs_join c (b :: r)
    show cs (a ++ ⟨#[c]⟩ ++ Str.join ⟨#[c]⟩ (b :: r)) = cs a ++ c :: jnC c (cs b :: r.map cs)
    have e : ∀ x y : Str, cs (x ++ y) = cs x ++ cs y := fun x y => app_list x y
    rw [e, e, ih]
    show cs a ++ [c] ++ _ = _
    simp
theorem split_is {c : Nat} {x : Str} {L : List (List Nat)} (h0 : L ≠ []) (hf : ∀ a ∈ L, c ∉ a) (h : jnC c L = cs x) : (Txt.split x ⟨#[c]⟩).map cs = L := by
  have h1 := PySem.StrLaws.join_split x ⟨#[c]⟩
  have h2 := PySem.StrLaws.split_free x c
  have h3 : (Txt.split x ⟨#[c]⟩) ≠ [] := fun e => by
    have := split_pos x ⟨#[c]⟩
    rw [e] at this
    simp at this
  refine jnC_inj (by simpa using h3) h0 (fun a ha => ?_) hf ?_
  · obtain ⟨p, hp, rfl⟩ := List.mem_map.mp ha
    exact h2 p hp
  · rw [← cs_join, h1, h]
theorem cs_app (x y : Str) : cs (x ++ y) = cs x ++ cs y := app_list x y
theorem part_is {c : Nat} {x : Str} {a b : List Nat} (ha : c ∉ a) (h : cs x = a ++ c :: b) : cs (Txt.partition x ⟨#[c]⟩).1 = a ∧ cs (Txt.partition x ⟨#[c]⟩).2.2 = b := by
  have hcx : c ∈ cs x := by rw [h]; simp
  have hs := PySem.StrLaws.partition_sum x ⟨#[c]⟩
  have hin : (!(Builtin.Str.occurrences x ⟨#[c]⟩ 0 x.length 1).isEmpty) = true := by
    rw [PySem.StrLaws.found_one]; exact decide_eq_true hcx
  have h2 : (Txt.partition x ⟨#[c]⟩).2.1 = ⟨#[c]⟩ := by
    unfold Txt.partition
    split
    · rfl
    · rename_i e; rw [e] at hin; cases hin
  have hf : c ∉ cs (Txt.partition x ⟨#[c]⟩).1 := by
    rcases partition_head x ⟨#[c]⟩ with ⟨e, hno⟩ | ⟨i, e, hat, hno⟩
    · obtain ⟨j, hj⟩ := List.getElem?_of_mem hcx
      exact (hno j ((PySem.StrLaws.subAt_one x c j).mpr hj)).elim
    · rw [e]
      intro hc
      have e2 : cs (Builtin.Str.strSub x 0 i) = (cs x).take i := by
        show (x.cps.extract 0 i).toList = _
        simp
      rw [e2] at hc
      obtain ⟨k, hk⟩ := List.getElem?_of_mem hc
      have hki : k < i := by
        have := (List.getElem?_eq_some_iff.mp hk).1
        rw [List.length_take] at this
        omega
      rw [List.getElem?_take_of_lt hki] at hk
      exact hno k hki ((PySem.StrLaws.subAt_one x c k).mpr hk)
  have h3 := congrArg cs hs
  rw [cs_app, cs_app, h2, h] at h3
  have h4 : cs (Txt.partition x ⟨#[c]⟩).1 ++ c :: cs (Txt.partition x ⟨#[c]⟩).2.2 = a ++ c :: b := by
    rw [← h3]
    show _ = _ ++ [c] ++ _
    simp
  exact cut_inj hf ha h4
end DP
set_option Elab.async false
set_option linter.all false
set_option maxRecDepth 100000
set_option maxHeartbeats 1000000
namespace DP
open PySem L2 PyProof.Rows
/-! ### the text of a pattern tells the pattern -/
def hdL (a : List Nat) : List (List Nat) → List (List Nat)
  | [] => [a]
  | x :: r => (a ++ x) :: r
def pcs : List Str → List (List Nat)
  | [] => [[]]
  | p :: ps => if isField p = true then [] :: hdL (cs p ++ [62]) (pcs ps) else hdL (cs p) (pcs ps)
theorem pcs_ne : ∀ ps : List Str, ∃ x r, pcs ps = x :: r
  | [] => ⟨_, _, rfl⟩
  | p :: ps => by
    obtain ⟨x, r, e⟩ := pcs_ne ps
    unfold pcs
    split
    · exact ⟨_, _, rfl⟩
    · rw [e]; exact ⟨_, _, rfl⟩
theorem jn_hd (c : Nat) (a x : List Nat) (r : List (List Nat)) : jnC c (hdL a (x :: r)) = a ++ jnC c (x :: r) := by
  cases r with
  | nil => rfl
  | cons b r =>
    show (a ++ x) ++ c :: jnC c (b :: r) = a ++ (x ++ c :: jnC c (b :: r))
    rw [List.append_assoc]
theorem fmt_nil : cs (fmt []) = [] := by decide +kernel
theorem fmt_cons (p : Str) (ps : List Str) : cs (fmt (p :: ps)) = cs (fmtP p) ++ cs (fmt ps) := by
  unfold fmt
  show (Txt.join "" _).cps.toList = _ ++ (Txt.join "" _).cps.toList
  rw [join0_list, join0_list]
  rfl
theorem pcs_fmt : ∀ ps : List Str, jnC 60 (pcs ps) = cs (fmt ps)
  | [] => fmt_nil.symm
  | p :: ps => by
    have ih := pcs_fmt ps
    obtain ⟨x, r, e⟩ := pcs_ne ps
    rw [e] at ih
    rw [fmt_cons, ← ih]
    unfold pcs fmtP
    by_cases hf : isField p = true
    · rw [if_pos hf, if_pos hf, e]
      have e2 : jnC 60 ([] :: hdL (cs p ++ [62]) (x :: r)) = 60 :: jnC 60 (hdL (cs p ++ [62]) (x :: r)) := rfl
      rw [e2, jn_hd, cs_app, cs_app]
      show 60 :: (cs p ++ [62] ++ _) = [60] ++ cs p ++ [62] ++ _
      simp
    · rw [if_neg hf, if_neg hf, e, jn_hd]
theorem part_free {p : Str} (h : p ∈ fields ∨ p ∈ lits) : 60 ∉ cs p ∧ 62 ∉ cs p ∧ cs p ≠ [] := by
  have : ∀ p ∈ fields ++ lits, 60 ∉ cs p ∧ 62 ∉ cs p ∧ cs p ≠ [] := by decide +kernel
  exact this p (List.mem_append.mpr h)
theorem hd_free {c : Nat} {a : List Nat} {l : List (List Nat)} (ha : c ∉ a) (hl : ∀ x ∈ l, c ∉ x) : ∀ x ∈ hdL a l, c ∉ x := by
  intro x hx
  cases l with
  | nil => rw [List.mem_singleton.mp hx]; exact ha
  | cons y r =>
    rcases List.mem_cons.mp hx with rfl | h
    · intro z
      rcases List.mem_append.mp z with z | z
      · exact ha z
      · exact hl y (by simp) z
    · exact hl x (by simp [h])
theorem pcs_free : ∀ {ps : List Str}, (∀ p ∈ ps, p ∈ fields ∨ p ∈ lits) → ∀ x ∈ pcs ps, 60 ∉ x
  | [], _, x, hx => by rw [List.mem_singleton.mp hx]; simp
  | p :: ps, h, x, hx => by
    have ih := pcs_free (ps := ps) fun q hq => h q (by simp [hq])
    obtain ⟨h1, h2, h3⟩ := part_free (h p (by simp))
    unfold pcs at hx
    split at hx
    · rcases List.mem_cons.mp hx with rfl | hx
      · simp
      · exact hd_free (by simpa using h1) ih x hx
    · exact hd_free h1 ih x hx
/-- parts of pieces -/
def prt : List (List Nat) → List (List Nat)
  | [] => []
  | x :: r => x :: r.flatMap fun y => [cs (Txt.partition (ST y) ">").1, cs (Txt.partition (ST y) ">").2.2]
def ne0 (l : List Nat) : Bool := !decide (l = [])
theorem prt_pcs : ∀ {ps : List Str}, drawn ps → (prt (pcs ps)).filter ne0 = ps.map cs
  | [], _ => rfl
  | p :: ps, h => by
    have hd : drawn ps := ⟨fun q hq => h.1 q (by simp [hq]), by
      cases ps with
      | nil => rfl
      | cons q ps =>
        have := h.2
        rw [adj_cons, Bool.and_eq_true] at this
        exact this.2⟩
    have ih := prt_pcs hd
    obtain ⟨h1, h2, h3⟩ := part_free (h.1 p (by simp))
    obtain ⟨x, r, e⟩ := pcs_ne ps
    have hne : ne0 (cs p) = true := by unfold ne0; rw [decide_eq_false h3]; rfl
    unfold pcs
    by_cases hf : isField p = true
    · rw [if_pos hf, e]
      have hp := part_is (c := 62) (x := ST (cs p ++ [62] ++ x)) (a := cs p) (b := x) h2 (by rw [cs_ST]; simp)
      have e2 : prt ([] :: hdL (cs p ++ [62]) (x :: r)) = [] :: cs p :: prt (x :: r) := by
        show [] :: (List.flatMap _ ((cs p ++ [62] ++ x) :: r)) = _
        rw [List.flatMap_cons, show Txt.partition (ST (cs p ++ [62] ++ x)) ">" = Txt.partition (ST (cs p ++ [62] ++ x)) ⟨#[62]⟩ from rfl, hp.1, hp.2]
        rfl
      rw [e2, List.filter_cons_of_neg (by decide), List.filter_cons_of_pos hne, ← e, ih]
      rfl
    · rw [if_neg hf, e]
      have hx : x = [] := by
        cases ps with
        | nil => cases e; rfl
        | cons q ps =>
          have hq : isField q = true := by
            have := h.2
            rw [adj_cons, Bool.and_eq_true, Bool.or_eq_true] at this
            rcases this.1 with z | z
            · exact absurd z hf
            · exact z
          unfold pcs at e
          rw [if_pos hq] at e
          cases e; rfl
      subst hx
      rw [e] at ih
      have e2 : prt (hdL (cs p) ([] :: r)) = cs p :: (prt ([] :: r)).drop 1 := by
        show (cs p ++ []) :: _ = _
        rw [List.append_nil]
        rfl
      have e3 : (prt ([] :: r)).filter ne0 = ((prt ([] :: r)).drop 1).filter ne0 := rfl
      rw [e2, List.filter_cons_of_pos hne, ← e3, ih]
      rfl
theorem split_fmt {ps : List Str} (h : drawn ps) : Txt.split (fmt ps) "<" = (pcs ps).map ST := by
  obtain ⟨x, r, e⟩ := pcs_ne ps
  have := split_is (c := 60) (x := fmt ps) (L := pcs ps) (by rw [e]; simp) (pcs_free h.1) (pcs_fmt ps)
  rw [← this, List.map_map]
  exact (List.map_id' _).symm.trans (List.map_congr_left fun t _ => (ST_cs t).symm)
theorem P10_fmt {ps : List Str} (h : drawn ps) : P10 (fmt ps) = ps := by
  have e1 : (partsOf (fmt ps)).map cs = prt (pcs ps) := by
    unfold partsOf
    rw [split_fmt h]
    obtain ⟨x, r, e⟩ := pcs_ne ps
    rw [e]
    show cs (ST x) :: List.map cs (List.flatMap _ (r.map ST)) = _
    rw [cs_ST, List.flatMap_map, List.map_flatMap]
    rfl
  have e2 := prt_pcs h
  rw [← e1, List.filter_map] at e2
  have e3 : (fun p : Str => !decide (p = "")) = ne0 ∘ cs := by
    funext p
    show _ = !decide (cs p = [])
    congr 1
    rw [decide_eq_decide]
    constructor
    · rintro rfl; decide +kernel
    · intro z
      rw [← ST_cs p, z]
      decide +kernel
  unfold P10
  rw [e3]
  have inj : ∀ {a b : List Str}, a.map cs = b.map cs → a = b := fun {a b} z => by
    have := congrArg (List.map ST) z
    rw [List.map_map, List.map_map] at this
    have e4 : (ST ∘ cs) = (id : Str → Str) := funext fun t => ST_cs t
    rw [e4, List.map_id, List.map_id] at this
    exact this
  exact inj e2
theorem parse_fmt {n : Nat} {ps : List Str} (h : LPat n ps) (hn : n ≤ 7) : parse (fmt ps) = some ps := by
  unfold parse
  rw [P10_fmt h.1, if_pos ⟨h.pat hn, rfl⟩]
end DP
set_option Elab.async false
set_option linter.all false
set_option maxRecDepth 100000
set_option maxHeartbeats 1000000
namespace DP
open PySem L2 PyProof.Rows
/-- a value of another type -/
def NoTy (K : PySem.W.Frag) (H : Hp) (v : V) (n : String) : Prop := ∀ H', Ex H H' → ∃ t, TyX K H' v (.type t) ∧ kitB t n = some false
theorem NoTy.ex {K : PySem.W.Frag} {H H' : Hp} {v : V} {n : String} (x : Ex H H') (h : NoTy K H v n) : NoTy K H' v n := fun H2 x2 => h H2 (Ex.trans x x2)
theorem isi_no {X : Cx} {P : Program} {w : World} {K : PySem.W.Frag} {mg : Str → Option Value} {base : Heap} {N : List Str} {sc : Scope} {k : Nat} {lv : Bool} {H : Hp} {Q : VK} {v : V} {n : String} (C : Kx X P w K mg base N sc k lv) (ht : NoTy K H v n) (h : Q (.bl false) H) : wC X (.builtin "isinstance") [v, .ty n] H Q := by
  obtain ⟨t, h1, h2⟩ := ht H (Ex.refl _)
  exact c_isi C h1 h2 h
theorem no_non_str {K : PySem.W.Frag} {H : Hp} : NoTy K H .non "str" := fun _ _ => ⟨"NoneType", .base .non, by decide +kernel⟩
theorem no_int_str {K : PySem.W.Frag} {H : Hp} (i : Int) : NoTy K H (.int i) "str" := fun _ _ => ⟨"int", .base (.int i), by decide +kernel⟩
theorem no_non_tup {K : PySem.W.Frag} {H : Hp} : NoTy K H .non "tuple" := fun _ _ => ⟨"NoneType", .base .non, by decide +kernel⟩
theorem no_str_tup {K : PySem.W.Frag} {H : Hp} (x : Str) : NoTy K H (.str x) "tuple" := fun _ _ => ⟨"str", .base (.str x), by decide +kernel⟩
theorem no_lst {K : PySem.W.Frag} {H : Hp} {a : Addr} {xs : List V} (h : H a = some (.lst xs)) : NoTy K H (.ref a) "str" ∧ NoTy K H (.ref a) "tuple" :=
  ⟨fun _ x => ⟨"list", .base (.lst (x _ _ h)), by decide +kernel⟩, fun _ x => ⟨"list", .base (.lst (x _ _ h)), by decide +kernel⟩⟩
/-- what a pattern's text says of its parts -/
theorem alpha10 {p : Str} (h : (isField p || isLit p) = true) : Txt.isalpha p = isField p := by
  have h1 : ∀ p ∈ fields, Txt.isalpha p = true := by decide +kernel
  have h2 : ∀ c ∈ litText.cps.toList, Unicode.isAlpha c = false := by decide +kernel
  cases hf : isField p with
  | true => exact h1 p (isIn_iff.mp hf)
  | false =>
    rw [hf, Bool.false_or] at h
    unfold isLit at h
    simp only [Bool.and_eq_true, decide_eq_true_eq] at h
    obtain ⟨l1, l2, l3⟩ := h
    unfold Txt.isalpha
    rw [Bool.and_eq_false_iff]
    right
    cases hp : cs p with
    | nil =>
      have := cs_len p
      rw [hp] at this
      simp at this
      omega
    | cons c r =>
      have hc : c ∈ p.cps.toList := by show c ∈ cs p; rw [hp]; simp
      have h3 := List.all_eq_true.mp l3 c hc
      rw [← Array.all_toList, List.all_eq_false]
      exact ⟨c, hc, by rw [h2 c (of_decide_eq_true h3)]; decide⟩
theorem pat_parts {ps : List Str} (h : isPat ps = true) : ∀ p ∈ ps, (isField p || isLit p) = true := by
  unfold isPat at h
  simp only [Bool.and_eq_true] at h
  exact fun p hp => List.all_eq_true.mp h.2.2.1 p hp
/-- ('raised', i), new -/
def RetRai (i : Nat) (H : Hp) (Q : VK) : Prop := ∀ p H', H p = none → Ex H H' → H' p = some (.tup [.str "raised", nI i]) → Q (.ref p) H'
def BadP (K : PySem.W.Frag) (H : Hp) (v : V) : Prop := NoTy K H v "tuple" ∨ ∃ ps, StrsV K H ps v ∧ small ps ∧ isPat ps = false
theorem BadP.ex {K : PySem.W.Frag} {H H' : Hp} {v : V} (x : Ex H H') (h : BadP K H v) : BadP K H' v := by
  rcases h with h | ⟨ps, h1, h2, h3⟩
  · exact .inl (h.ex x)
  · exact .inr ⟨ps, h1.tk (Tk.of x), h2, h3⟩
def sp_is_patternX (K : PySem.W.Frag) : Sp := fun vs H Q _ => ∃ v, vs = [v] ∧ NoTy K H v "tuple" ∧ Q (.bl false) H
def sp_need_patternX (K : PySem.W.Frag) (S : Xs) : Sp := fun vs H _ E => ∃ v, vs = [v] ∧ BadP K H v ∧ ∀ H', Ex H H' → E (.ref S.c2) none H'
def sp_formatted (K : PySem.W.Frag) : Sp := fun vs H Q _ => ∃ v ps, vs = [v] ∧ StrsV K H ps v ∧ small ps ∧ Ret (.str (fmt ps)) H Q
def sp_formatX (K : PySem.W.Frag) (S : Xs) : Sp := fun vs H Q E => ∃ v, vs = [v] ∧ ((∃ ps, StrsV K H ps v ∧ small ps ∧ isPat ps = true ∧ Ret (.str (fmt ps)) H Q) ∨ (BadP K H v ∧ ∀ H', Ex H H' → E (.ref S.c2) none H'))
def RetTp (ps : List Str) (H : Hp) (Q : VK) : Prop := ∀ p H', H p = none → Ex H H' → H' p = some (.tup (ps.map V.str)) → Q (.ref p) H'
def sp_parseX (K : PySem.W.Frag) (S : Xs) : Sp := fun vs H Q E => ∃ v, vs = [v] ∧ ((∃ t, v = .str t ∧ t.length ≤ 400 ∧ (∀ ps, parse t = some ps → RetTp ps H Q) ∧ (parse t = none → ∀ H', Ex H H' → E (.ref S.c6) none H')) ∨ (NoTy K H v "str" ∧ ∀ H', Ex H H' → E (.ref S.c6) none H'))
def sp_ltext (K : PySem.W.Frag) : Sp := fun vs H Q _ => ∃ v ps, vs = [v] ∧ StrsV K H ps v ∧ small ps ∧ (∀ p ∈ ps, (isField p || isLit p) = true) ∧ Ret (.str (fmt ps)) H Q
def sp_ask (K : PySem.W.Frag) : Sp := fun vs H Q _ => ∃ (i : Int) (v : V), vs = [.int i, v] ∧
  ((i = 0 ∧ ∃ ps, StrsV K H ps v ∧ small ps ∧ isPat ps = true ∧ Ret (.str (fmt ps)) H Q) ∨ (i = 0 ∧ BadP K H v ∧ RetRai 2 H Q) ∨
   (i = 1 ∧ ∃ t, v = .str t ∧ t.length ≤ 400 ∧ (∀ ps, parse t = some ps → RetTp ps H Q) ∧ (parse t = none → RetRai 6 H Q)) ∨ (i = 1 ∧ NoTy K H v "str" ∧ RetRai 6 H Q))
end DP
set_option Elab.async false
set_option linter.all false
set_option maxRecDepth 100000
set_option maxHeartbeats 1000000
namespace DP
open PySem L2 PyProof.Rows
section
variable {X : Cx} {σ : L2.St} {H : Hp} {Q : VK} {o e : Expr} {apos cpos : Pos}
/-- text.split(e) -/
theorem e_split (h : wE X o σ H fun x H1 => ∃ a, x = .str a ∧ wE X e σ H1 fun y H2 => ∃ b, y = .str b ∧ (b.length == 0) = false ∧ a.length + 2 ≤ sizeLine ∧ ∀ p H3, H2 p = none → Ex H2 H3 → H3 p = some (.lst ((Txt.split a b).map V.str)) → Q (.ref p) H3)
    (hbase : attributeBase o "split" X.env (eval o X.env) = eval o X.env := by rfl)
    (hfew : ((backTo cpos (starEach [e] X.env)).all (fun x => !x.1) && (backToKw cpos (keywordEach [] X.env)).all (fun x => x.1.isSome)
      && decide ([e].length + ([] : List Keyword).length + (if ([] : List Keyword).isEmpty then 0 else 1) < 30)) = true := by rfl)
    (hline : (apos.endLine == cpos.line) = true := by rfl) (hs : starEach [e] X.env = (false, eval e X.env) :: starEach [] X.env := by rfl) (hplain : (backTo cpos (starEach [] X.env)).any (·.1) = false := by rfl) :
    wE X (.Call (.Attribute o "split" apos) [e] [] cpos) σ H Q :=
  e_bm PySem.F.plainAttrs_str PySem.F.slot_str_split PySem.F.type_str_split (wE_mono (fun x H1 ⟨a, e0, q⟩ => by subst e0; exact ⟨ty_str, a_cons (wE_mono (fun y H2 ⟨b, e1, hb, hl, q⟩ => by subst e1; exact a_nil (goM mt_split ⟨a, b, rfl, rfl, hb, hl, fun p np => q p _ np (Ex.new np) upd_same⟩)) q) hs⟩) h) hbase hfew hline hs hplain
/-- text.partition(e) -/
theorem e_part (h : wE X o σ H fun x H1 => ∃ a, x = .str a ∧ wE X e σ H1 fun y H2 => ∃ b, y = .str b ∧ (b.length == 0) = false ∧ a.length ≤ sizeLine ∧ ∀ p H3, H2 p = none → Ex H2 H3 → H3 p = some (.tup [.str (Txt.partition a b).1, .str (Txt.partition a b).2.1, .str (Txt.partition a b).2.2]) → Q (.ref p) H3)
    (hbase : attributeBase o "partition" X.env (eval o X.env) = eval o X.env := by rfl)
    (hfew : ((backTo cpos (starEach [e] X.env)).all (fun x => !x.1) && (backToKw cpos (keywordEach [] X.env)).all (fun x => x.1.isSome)
      && decide ([e].length + ([] : List Keyword).length + (if ([] : List Keyword).isEmpty then 0 else 1) < 30)) = true := by rfl)
    (hline : (apos.endLine == cpos.line) = true := by rfl) (hs : starEach [e] X.env = (false, eval e X.env) :: starEach [] X.env := by rfl) (hplain : (backTo cpos (starEach [] X.env)).any (·.1) = false := by rfl) :
    wE X (.Call (.Attribute o "partition" apos) [e] [] cpos) σ H Q :=
  e_bm PySem.F.plainAttrs_str PySem.F.slot_str_partition PySem.F.type_str_partition (wE_mono (fun x H1 ⟨a, e0, q⟩ => by subst e0; exact ⟨ty_str, a_cons (wE_mono (fun y H2 ⟨b, e1, hb, hl, q⟩ => by subst e1; exact a_nil (goM mt_partition ⟨a, b, rfl, rfl, hb, hl, fun p np => q p _ np (Ex.new np) upd_same⟩)) q) hs⟩) h) hbase hfew hline hs hplain
end
def prtS : List Str → List Str
  | [] => []
  | p0 :: r => p0 :: r.flatMap fun p => [(Txt.partition p ">").1, (Txt.partition p ">").2.2]
theorem parts_prt (t : Str) : partsOf t = prtS (Txt.split t "<") := by
  unfold partsOf
  cases Txt.split t "<" <;> rfl
theorem prt_zero {l : List Str} {p : Str} (h : l[0]? = some p) : prtS (l.take 1) = [p] := by
  cases l with
  | nil => cases h
  | cons a r => cases h; rfl
theorem prt_next {l : List Str} {n : Nat} {p : Str} (hn : n ≠ 0) (h : l[n]? = some p) : prtS (l.take (n + 1)) = prtS (l.take n) ++ [(Txt.partition p ">").1, (Txt.partition p ">").2.2] := by
  rw [List.take_add_one, h]
  cases l with
  | nil => cases h
  | cons a r =>
    cases n with
    | zero => exact absurd rfl hn
    | succ n =>
      show prtS ((a :: r.take n) ++ [p]) = prtS (a :: r.take n) ++ _
      show a :: List.flatMap _ (r.take n ++ [p]) = a :: List.flatMap _ (r.take n) ++ _
      rw [List.flatMap_append]
      simp
theorem prt_len : ∀ l : List Str, (prtS l).length ≤ 2 * l.length
  | [] => Nat.le_refl _
  | a :: r => by
    show (List.flatMap _ r).length + 1 ≤ _
    have : ∀ r : List Str, (r.flatMap fun p => [(Txt.partition p ">").1, (Txt.partition p ">").2.2]).length = 2 * r.length := fun r => by
      induction r with
      | nil => rfl
      | cons b r ih => rw [List.flatMap_cons, List.length_append, ih]; simp; omega
    rw [this]
    simp
    omega
theorem prt_short {l : List Str} {k : Nat} (h : ∀ p ∈ l, p.length ≤ k) : ∀ p ∈ prtS l, p.length ≤ k := by
  intro p hp
  cases l with
  | nil => cases hp
  | cons a r =>
    rcases List.mem_cons.mp hp with rfl | hp
    · exact h _ (by simp)
    · obtain ⟨z, hz, hp⟩ := List.mem_flatMap.mp hp
      have hf := fact_partition z ">"
      have hk := h z (by simp [hz])
      rcases List.mem_cons.mp hp with rfl | hp
      · omega
      · rw [List.mem_singleton.mp hp]; omega
theorem P10_small {t : Str} (h : t.length ≤ 400) : small (P10 t) := by
  have h1 := prt_len (Txt.split t "<")
  have h2 := split_le t "<"
  have h3 : (P10 t).length ≤ (partsOf t).length := List.length_filter_le _ _
  rw [parts_prt] at h3
  refine ⟨by omega, fun p hp => ?_⟩
  have hm := (List.mem_filter.mp hp).1
  rw [parts_prt] at hm
  have := prt_short (k := t.length) (fun z hz => part_short hz) p hm
  omega
end DP
set_option Elab.async false
set_option linter.all false
set_option maxRecDepth 100000
set_option maxHeartbeats 1000000
/-! sets of many tuples, all of them different -/
namespace DP
open PySem L2 PyProof.Rows PySem.Spec
/-! ### x -> 5 x + 1, masks up to 2047 -/
def sK (k : Nat) : Nat := (5 ^ k - 1) / 4
theorem pow5 : ∀ k, 5 ^ k = 4 * sK k + 1
  | 0 => rfl
  | k + 1 => by
    have ih := pow5 k
    unfold sK at ih ⊢
    rw [Nat.pow_succ]
    omega
theorem sK_succ (k : Nat) : sK (k + 1) = 5 * sK k + 1 := by
  have h1 := pow5 k
  have h2 := pow5 (k + 1)
  rw [Nat.pow_succ] at h2
  omega
theorem lcg_sK (m : Nat) : ∀ k, lcgN m k = sK k % (m + 1)
  | 0 => (Nat.zero_mod _).symm
  | k + 1 => by
    have ih := lcg_sK m k
    unfold lcgN
    rw [ih, sK_succ, Nat.add_mod, Nat.mul_mod, Nat.mod_mod, ← Nat.mul_mod, ← Nat.add_mod, Nat.mul_comm]
/-- the number k with 1 + 5 + .. (k times) = j, bit by bit -/
def inK5 (j : Nat) : Nat → Nat
  | 0 => 0
  | n + 1 => if sK (inK5 j n) % 2 ^ (n + 1) = j % 2 ^ (n + 1) then inK5 j n else inK5 j n + 2 ^ n
def Msk (m : Nat) : Prop := m = 7 ∨ m = 31 ∨ m = 127 ∨ m = 511 ∨ m = 2047
def lgM (m : Nat) : Nat := if m = 7 then 3 else if m = 31 then 5 else if m = 127 then 7 else if m = 511 then 9 else 11
def okM (m : Nat) : Bool := ((List.range (m + 1)).all fun j => decide (sK (inK5 j (lgM m)) % (m + 1) = j) && decide (inK5 j (lgM m) ≤ m)) && decide (sK (m + 1) % (m + 1) = 0)
theorem okM7 : okM 7 = true := by decide +kernel
theorem okM31 : okM 31 = true := by decide +kernel
theorem okM127 : okM 127 = true := by decide +kernel
theorem okM511 : okM 511 = true := by decide +kernel
theorem okM2047 : okM 2047 = true := by decide +kernel
theorem okM_of {m : Nat} (h : Msk m) : okM m = true := by
  rcases h with rfl | rfl | rfl | rfl | rfl
  · exact okM7
  · exact okM31
  · exact okM127
  · exact okM511
  · exact okM2047
theorem Msk.odd {m : Nat} (h : Msk m) : m % 2 = 1 ∧ 7 ≤ m ∧ m ≤ 2047 := by
  rcases h with rfl | rfl | rfl | rfl | rfl <;> decide
theorem lcg_on {m : Nat} (h : Msk m) {j : Nat} (hj : j ≤ m) : ∃ b, b ≤ m ∧ lcgN m b = j := by
  have h1 := okM_of h
  unfold okM at h1
  rw [Bool.and_eq_true] at h1
  have h2 := List.all_eq_true.mp h1.1 j (List.mem_range.mpr (by omega))
  rw [Bool.and_eq_true, decide_eq_true_eq, decide_eq_true_eq] at h2
  exact ⟨_, h2.2, by rw [lcg_sK]; exact h2.1⟩
theorem lcg_back {m : Nat} (h : Msk m) : ∀ k, lcgN m (m + 1 + k) = lcgN m k
  | 0 => by
    have h1 := okM_of h
    unfold okM at h1
    rw [Bool.and_eq_true, decide_eq_true_eq] at h1
    rw [Nat.add_zero, lcg_sK]
    exact h1.2
  | k + 1 => by
    have ih := lcg_back h k
    rw [show m + 1 + (k + 1) = (m + 1 + k) + 1 by omega]
    unfold lcgN
    rw [ih]
theorem lcg_from {m : Nat} (h : Msk m) {i j : Nat} (hi : i ≤ m) (hj : j ≤ m) : ∃ k, k ≤ m ∧ lcgI m i k = j := by
  obtain ⟨a, ha, rfl⟩ := lcg_on h hi
  obtain ⟨b, hb, rfl⟩ := lcg_on h hj
  by_cases c : a ≤ b
  · exact ⟨b - a, by omega, by rw [lcgN_add, show a + (b - a) = b by omega]⟩
  · exact ⟨m + 1 + b - a, by omega, by rw [lcgN_add, show a + (m + 1 + b - a) = m + 1 + b by omega, lcg_back h]⟩
theorem run_at {m : Nat} (hm : Msk m) (h : Int) {j : Nat} (hj : j ≤ m) : ∃ n, n ≤ m + 12 ∧ runI m (SetTable.bits h) n = j := by
  obtain ⟨k, hk, e⟩ := lcg_from hm (runI_le m (SetTable.bits h) 12) hj
  refine ⟨12 + k, by omega, ?_⟩
  rw [runI_tail (bits_lt h), e]
theorem way_at {m : Nat} (hm : Msk m) (h : Int) {j : Nat} (hj : j ≤ m) : ∃ k, k < 10 * SetTable.turns m ∧ way m h k = j := by
  obtain ⟨n, hn, e⟩ := run_at hm h hj
  obtain ⟨k, hk, e2⟩ := run_nth m (SetTable.bits h) n
  have ht : m + 12 < SetTable.turns m := by unfold SetTable.turns; omega
  exact ⟨k, by omega, (congrArg SetTable.Probe.j e2).trans e⟩
theorem way_in {m : Nat} (h : Int) (k : Nat) : way m h k ≤ m := by
  have h1 : SetTable.bits h % (m + 1) ≤ m := Nat.le_of_lt_succ (Nat.mod_lt _ (Nat.succ_pos m))
  have h2 := runEnd_bd h1
  have h3 : (runAt m (SetTable.bits h % (m + 1)) (SetTable.bits h)).j + (runAt m (SetTable.bits h % (m + 1)) (SetTable.bits h)).more ≤ m := by
    unfold runAt
    dsimp only
    omega
  have := nth_in k _ h3
  unfold way
  omega
/-! ### a table with n slots taken -/
structure Tk0 (t : SetTable) (n : Nat) : Prop where
  ris : Ris t.place.toList
  dm : t.dummies = #[]
  sz : t.place.size = n
  mok : Msk t.mask
theorem Tk0.first {t : SetTable} {n : Nat} (T : Tk0 t n) (hl : n ≤ t.mask) (h : Int) : ∃ z, z < 10 * SetTable.turns t.mask ∧ ¬ way t.mask h z ∈ t.place.toList ∧ ∀ k, k < z → way t.mask h k ∈ t.place.toList := by
  obtain ⟨j, hj, hn⟩ := st_missing t.place.toList (t.mask + 1) (by have := T.sz; rw [Array.length_toList]; omega)
  obtain ⟨k, hk, e⟩ := way_at T.mok h (show j ≤ t.mask by omega)
  obtain ⟨z, h1, h2, h3⟩ := st_least (p := fun k => ¬ way t.mask h k ∈ t.place.toList) k (fun q => hn (e ▸ q))
  exact ⟨z, by omega, h2, fun k' hk' => Classical.byContradiction fun q => h3 k' hk' q⟩
theorem Tk0.put {t : SetTable} {n : Nat} (T : Tk0 t n) {j : Nat} (hj : ¬ j ∈ t.place.toList) :
    (t.put j).2 = SetTable.below t.place j ∧ Tk0 (t.put j).1 (n + 1) ∧ (t.put j).1.mask = t.mask ∧ (t.put j).1.led = t.led ∧ (t.put j).1.plain = t.plain ∧ (t.put j).1.fill = n + 1 := by
  have h1 := (below_cut T.ris j).1
  have h2 : t.place[SetTable.below t.place j]? ≠ some j := fun q => hj (List.mem_of_getElem? (by rw [Array.getElem?_toList]; exact q))
  have h3 : (t.put j).1.place.size = n + 1 := by
    have q := congrArg List.length (put_place t j)
    rw [len_ins _ (by rw [Array.length_toList]; exact h1), Array.length_toList, Array.length_toList, T.sz] at q
    exact q
  have h4 := put_dm T.dm j
  refine ⟨rfl, ⟨ris_insert T.ris h2, h4, h3, T.mok⟩, rfl, rfl, rfl, ?_⟩
  unfold SetTable.fill
  rw [h3, h4]
  rfl
/-! ### laying all anew -/
structure Ow (m n : Nat) (ow : Array (Option Nat)) : Prop where
  sz : ow.size = m + 1
  lt : ∀ j k, j ≤ m → oAt ow j = some k → k < n
  all : ∀ k, k < n → ∃ j, j ≤ m ∧ oAt ow j = some k
  one : ∀ i j k, i ≤ m → j ≤ m → oAt ow i = some k → oAt ow j = some k → i = j
theorem Ow.zero (m : Nat) : Ow m 0 (Array.replicate (m + 1) none) := by
  refine ⟨Array.size_replicate .., fun j k hj e => ?_, fun k hk => absurd hk (Nat.not_lt_zero k), fun i j k hi hj e => ?_⟩
  · rw [oAt_init hj] at e; cases e
  · rw [oAt_init hi] at e; cases e
theorem Ow.gap {m n : Nat} {ow : Array (Option Nat)} (W : Ow m n ow) (hn : n ≤ m) : ∃ j, j ≤ m ∧ oAt ow j = none := by
  refine Classical.byContradiction fun hc => ?_
  have hall : ∀ j, j ≤ m → ∃ k, oAt ow j = some k := fun j hj => by
    cases e : oAt ow j with
    | none => exact absurd ⟨j, hj, e⟩ hc
    | some k => exact ⟨k, rfl⟩
  have h1 : ((List.range (m + 1)).map fun j => (oAt ow j).getD 0).Nodup := List.pairwise_map.mpr (List.Pairwise.imp_of_mem (fun {i j} hi hj hne e => hne (by
    have hi' : i ≤ m := by have := List.mem_range.mp hi; omega
    have hj' : j ≤ m := by have := List.mem_range.mp hj; omega
    obtain ⟨k, e1⟩ := hall i hi'
    obtain ⟨l, e2⟩ := hall j hj'
    rw [e1, e2] at e
    have e : k = l := e
    exact W.one i j k hi' hj' e1 (by rw [e2, e]))) List.nodup_range)
  have h2 : ∀ x ∈ (List.range (m + 1)).map fun j => (oAt ow j).getD 0, x ∈ List.range n := fun x hx => by
    obtain ⟨j, hj, rfl⟩ := List.mem_map.mp hx
    have hj' : j ≤ m := by have := List.mem_range.mp hj; omega
    obtain ⟨k, e1⟩ := hall j hj'
    rw [e1]
    exact List.mem_range.mpr (W.lt j k hj' e1)
  have h := nat_nodup_len _ _ h1 h2
  rw [List.length_map, List.length_range, List.length_range] at h
  omega
theorem Ow.next {m n : Nat} (hm : Msk m) {ow : Array (Option Nat)} (W : Ow m n ow) (hn : n ≤ m) (h : Int) :
    ∃ j, SetTable.layClean.free m ow (SetTable.turns m) (SetTable.bits h % (m + 1)) (SetTable.bits h) = some j ∧ Ow m (n + 1) (ow.setIfInBounds j (some n)) := by
  obtain ⟨g, hg, eg⟩ := W.gap hn
  obtain ⟨r, hr, er⟩ := run_at hm h hg
  have hw : way m h (off m (SetTable.bits h % (m + 1)) (SetTable.bits h) r) = g := by
    have q := nth_off m r (SetTable.bits h % (m + 1)) (SetTable.bits h)
    rw [itL_run] at q
    exact (congrArg SetTable.Probe.j q).trans er
  obtain ⟨z, z1, z2, z3⟩ := st_least (p := fun k => oAt ow (way m h k) = none) _ (show oAt ow (way m h _) = none by rw [hw]; exact eg)
  have hzm := way_in (m := m) h z
  have hf := free_spec m ow (SetTable.turns m) r (SetTable.bits h % (m + 1)) (SetTable.bits h) z (by unfold SetTable.turns; omega) z1 (fun k hk => by
    have := z3 k hk
    cases q : oAt ow (nth m (runAt m (SetTable.bits h % (m + 1)) (SetTable.bits h)) k).j with
    | none => exact absurd q this
    | some _ => rfl) (by
    have q : oAt ow (nth m (runAt m (SetTable.bits h % (m + 1)) (SetTable.bits h)) z).j = none := z2
    rw [q]; rfl)
  refine ⟨way m h z, hf, ?_⟩
  have hs := oAt_set_self (some n) (show way m h z < ow.size by rw [W.sz]; omega)
  refine ⟨by rw [Array.size_setIfInBounds]; exact W.sz, fun j k hj e => ?_, fun k hk => ?_, fun i j k hi hj e1 e2 => ?_⟩
  · by_cases c : j = way m h z
    · rw [c, hs] at e; cases e; omega
    · rw [oAt_set_ne _ c] at e
      have := W.lt j k hj e
      omega
  · by_cases c : k = n
    · exact ⟨_, hzm, by rw [c]; exact hs⟩
    · obtain ⟨j, hj, e⟩ := W.all k (by omega)
      refine ⟨j, hj, ?_⟩
      rw [oAt_set_ne _ fun q => ?_]
      · exact e
      · rw [q] at e
        have z2 : oAt ow (way m h z) = none := z2
        rw [z2] at e
        cases e
  · by_cases c1 : i = way m h z
    · by_cases c2 : j = way m h z
      · rw [c1, c2]
      · rw [c1, hs] at e1; cases e1
        rw [oAt_set_ne _ c2] at e2
        exact absurd (W.lt j _ hj e2) (Nat.lt_irrefl _)
    · rw [oAt_set_ne _ c1] at e1
      by_cases c2 : j = way m h z
      · rw [c2, hs] at e2; cases e2
        exact absurd (W.lt i _ hi e1) (Nat.lt_irrefl _)
      · rw [oAt_set_ne _ c2] at e2
        exact W.one i j k hi hj e1 e2
theorem Ow.fold {m : Nat} (hm : Msk m) : ∀ (hs : List Int) (n : Nat) (ow : Array (Option Nat)), Ow m n ow → n + hs.length ≤ m → ∃ ow', hs.foldl (stepF m) (some (ow, n)) = some (ow', n + hs.length) ∧ Ow m (n + hs.length) ow'
  | [], n, ow, W, _ => ⟨ow, rfl, W⟩
  | h :: hs, n, ow, W, hl => by
    have hl' : n + 1 + hs.length = n + (h :: hs).length := by rw [List.length_cons]; omega
    obtain ⟨j, e, W'⟩ := W.next hm (by omega) h
    obtain ⟨ow', e', W2⟩ := Ow.fold hm hs (n + 1) _ W' (by omega)
    rw [hl'] at e' W2
    refine ⟨ow', ?_, W2⟩
    rw [List.foldl_cons, stepF_some e, e']
theorem relay_tab (t : SetTable) {hs : Array Int} {want m : Nat} (hw : SetTable.sizeAbove want - 1 = m) (hm : Msk m) (hn : hs.size ≤ m) :
    ∃ t' od, t.relaid hs want = some (t', od) ∧ od.toList.Perm (List.range hs.size) ∧ Tk0 t' hs.size ∧ t'.mask = m ∧ t'.led = t.led ∧ t'.plain = t.plain := by
  obtain ⟨ow, e, W⟩ := Ow.fold hm hs.toList 0 _ (Ow.zero m) (by rw [Array.length_toList]; omega)
  rw [Nat.zero_add, Array.length_toList] at e W
  have hr : t.relaid hs want = some (tabOf t m ow, ((liveOf m ow).map (·.2)).toArray) := by
    rw [relaid_eq, hw, layClean_eq, e]
    rfl
  have rs := ris_live (fun j => ow.getD j none) (List.range (m + 1)) (by
    unfold Ris
    first | exact List.pairwise_lt_range | exact List.pairwise_lt_range _)
  have r1 : Ris ((liveOf m ow).map (·.1)) := rs.1
  have nd1 : ((liveOf m ow).map (·.1)).Nodup := List.Pairwise.imp (fun h => Nat.ne_of_lt h) r1
  have nd2 : ((liveOf m ow).map (·.2)).Nodup := by
    refine List.pairwise_map.mpr (List.Pairwise.imp_of_mem (fun {p q} hp hq hne e => hne ?_) (nodup_of_map nd1))
    obtain ⟨i, k⟩ := p
    obtain ⟨j, l⟩ := q
    have a := (mem_live W.sz).mp hp
    have b := (mem_live W.sz).mp hq
    have e : k = l := e
    subst e
    rw [W.one i j k a.1 b.1 a.2 b.2]
  have pm : ((liveOf m ow).map (·.2)).Perm (List.range hs.size) := by
    refine (List.perm_ext_iff_of_nodup nd2 List.nodup_range).mpr fun k => ?_
    rw [List.mem_map, List.mem_range]
    constructor
    · rintro ⟨⟨j, k⟩, hp, rfl⟩
      have a := (mem_live W.sz).mp hp
      exact W.lt j k a.1 a.2
    · intro hk
      obtain ⟨j, hj, e⟩ := W.all k hk
      exact ⟨(j, k), (mem_live W.sz).mpr ⟨hj, e⟩, rfl⟩
  have hlen : (liveOf m ow).length = hs.size := by
    have q := pm.length_eq
    rw [List.length_map, List.length_range] at q
    exact q
  refine ⟨_, _, hr, by simpa using pm, ⟨by simpa [tabOf] using r1, rfl, ?_, hm⟩, rfl, rfl, rfl⟩
  show ((liveOf m ow).map (·.1)).toArray.size = hs.size
  rw [List.size_toArray, List.length_map, hlen]
theorem above_5 : SetTable.sizeAbove (SetTable.grown 5) = 32 := by decide +kernel
theorem above_19 : SetTable.sizeAbove (SetTable.grown 19) = 128 := by decide +kernel
theorem above_77 : SetTable.sizeAbove (SetTable.grown 77) = 512 := by decide +kernel
theorem above_307 : SetTable.sizeAbove (SetTable.grown 307) = 2048 := by decide +kernel
end DP
set_option Elab.async false
set_option linter.all false
set_option maxRecDepth 100000
set_option maxHeartbeats 1000000
namespace DP
open PySem L2 PyProof.Rows PySem.Spec
section
variable {P : Program} {w : World} {A : Around} {E : Value → Shared → Prop} {s : Shared}
/-- a set whose rows are the tuples L, all different -/
structure SetD (P : Program) (w : World) (h : Heap) (a : Addr) (L : List (Addr × List Int)) (es : Array (Int × Value)) (ep : Nat) (t : SetTable) : Prop where
  ob : ∃ o, h.get? a = some o ∧ o.ExactSet ∧ o.data = .set es ep t
  rows : es.toList = rowsOf P w L
  tab : Tk0 t L.length
  tup : ∀ p ∈ L, IsT P w h p.2 p.1
  plain : t.plain = true
  led : w.params.followText "set-order" = true ∨ t.led = true
  room : L.length * 5 < t.mask * 3
variable {a : Addr} {L : List (Addr × List Int)} {es : Array (Int × Value)} {ep : Nat} {t : SetTable}
theorem rows_len {L : List (Addr × List Int)} {es : Array (Int × Value)} (h : es.toList = rowsOf P w L) : es.size = L.length := by
  rw [← Array.length_toList, h]
  exact List.length_map ..
theorem SetD.fits (R : SetD P w s.heap a L es ep t) : t.fits es.size = true := by
  have h1 := R.tab.sz
  have h2 := rows_len R.rows
  have h3 := R.room
  unfold SetTable.fits SetTable.fill
  rw [Bool.and_eq_true, beq_iff_eq, decide_eq_true_eq, R.tab.dm]
  refine ⟨by omega, ?_⟩
  show t.place.size + 0 ≤ t.mask
  omega
theorem SetD.row (R : SetD P w s.heap a L es ep t) {i : Nat} {p : Addr × List Int} (h : L[i]? = some p) : es[i]? = some (thash P w p.2, Value.ref p.1) := by
  have q : es.toList[i]? = some (thash P w p.2, Value.ref p.1) := by
    rw [R.rows]
    unfold rowsOf
    rw [List.getElem?_map, h]
    rfl
  rw [Array.getElem?_toList] at q
  exact q
theorem SetD.stays (R : SetD P w s.heap a L es ep t) : ¬ t.gaveWay = true := by
  unfold SetTable.gaveWay
  rw [R.tab.mok.odd.1]
  decide
theorem no_dummy (m : Nat) : ∀ (n : Nat) (p : SetTable.Probe), p.dummy = none → (nth m p n).dummy = none
  | 0, _, h => h
  | n + 1, p, h => no_dummy m n (adv m p) (by
    unfold adv
    split
    · exact h
    · exact h)
/-- the start of a way -/
abbrev st0 (m : Nat) (h : Int) : SetTable.Probe := runAt m (SetTable.bits h % (m + 1)) (SetTable.bits h)
/-- THE SEARCH for a tuple that is not there -/
theorem seek_from (R : SetD P w s.heap a L es ep t) {x : Addr} {k : List Int} (hx : IsT P w s.heap k x) (hk : ¬ k ∈ L.map (·.2)) (hu : A.units < cLine) {z : Nat} (hz : z < 10 * SetTable.turns t.mask)
    (hz1 : ¬ way t.mask (thash P w k) z ∈ t.place.toList) (hz2 : ∀ c, c < z → way t.mask (thash P w k) c ∈ t.place.toList) {Q : SetFound → Shared → Prop} (hQ : Q (.free (way t.mask (thash P w k) z) false) s) :
    ∀ (f c : Nat) (sd : Option SetTable.Probe), sd.getD (t.probeStart (thash P w k)) = nth t.mask (st0 t.mask (thash P w k)) c → c ≤ z → z - c < f →
      wpAny (model P w) A (setSearchFrom a (.ref x) (thash P w k) true f sd) Q E s := by
  intro f
  induction f with
  | zero => intro c sd _ _ hf; exact absurd hf (Nat.not_lt_zero _)
  | succ f ih =>
    intro c sd hsd hc hf
    obtain ⟨o, ho, hex, hd⟩ := R.ob
    rw [setSearchFrom_succ]
    refine wpAny_bind (wpAny_setState_of ho hd R.fits ?_)
    dsimp only
    refine wp_if_neg R.stays ?_
    try refine wpAny_bind (wpAny_pure ?_)
    have hj : ∀ q, nth t.mask (nth t.mask (st0 t.mask (thash P w k)) c) q = nth t.mask (st0 t.mask (thash P w k)) (c + q) := fun q => (nth_add t.mask c _ q).symm
    have hgo := go_spec t R.tab.ris R.tab.dm (fun i => (es[i]?.map (·.1)).getD 0) (thash P w k) (10 * SetTable.turns t.mask) (z - c) (nth t.mask (st0 t.mask (thash P w k)) c) (no_dummy _ c _ rfl) (by omega) (fun q hq => by rw [hj]; exact hz2 (c + q) (by omega)) (by rw [hj, show c + (z - c) = z by omega]; exact hz1)
    rcases hgo with ⟨q, i, hq, hi, _, _, hp⟩ | ⟨_, hp⟩
    · rw [hj, hj] at hp
      rw [hj] at hi
      have hp' : t.probe (fun i => (es[i]?.map (·.1)).getD 0) (thash P w k) (sd.getD (t.probeStart (thash P w k))) = some (.candidate (way t.mask (thash P w k) (c + q)) i (nth t.mask (st0 t.mask (thash P w k)) (c + (q + 1)))) := by rw [hsd]; exact hp
      rw [hp']
      dsimp only
      have hil : i < L.length := by
        have q1 := (List.getElem?_eq_some_iff.mp hi).1
        have q2 := R.tab.sz
        rw [Array.length_toList] at q1
        omega
      have hp1 : L[i]? = some L[i] := List.getElem?_eq_getElem hil
      generalize L[i] = p at hp1
      have hpm := List.mem_of_getElem? hp1
      have hne : p.2 ≠ k := fun e => hk (List.mem_map.mpr ⟨p, hpm, e⟩)
      have hrest : wpAny (model P w) A (searchRest a (.ref x) (thash P w k) true f es t (way t.mask (thash P w k) (c + q)) i (nth t.mask (st0 t.mask (thash P w k)) (c + (q + 1)))) Q E s := by
        unfold searchRest
        rw [R.row hp1]
        dsimp only
        refine wpAny_bind (wpAny_holding (wpAny_eqBool_tuple hu (R.tup p hpm) hx ?_))
        refine wpAny_bind (wpAny_setState_of ho hd R.fits ?_)
        dsimp only
        refine wp_if_neg (by simp [hne]) ?_
        try refine wpAny_bind (wpAny_pure ?_)
        have hlive : t.slot (way t.mask (thash P w k) (c + q)) = .live i := slot_live R.tab.ris hi
        rw [sameMem]
        dsimp only
        simp only [if_true, hlive, R.row hp1]
        refine wpAny_bind (wpAny_isSame_ref_self (wpAny_bind (wpAny_pure ?_)))
        simp only [if_true]
        refine wp_if_neg (by simp [hne]) ?_
        exact ih (c + (q + 1)) _ rfl (by omega) (by omega)
      by_cases hl : t.led = true
      · refine wp_if_neg (by simp [hl]) ?_
        try refine wpAny_bind (wpAny_pure ?_)
        exact hrest
      · refine wp_if_pos (by simp [hl]) (wpAny_bind (seen_tup hx (fun y hy => ?_) (wp_if_neg (by decide) ?_)))
        · obtain ⟨e, he, rfl⟩ := List.mem_map.mp hy
          have h1 : e ∈ es.toList := by
            have : e ∈ es ∧ e.1 = thash P w k := by simpa using he
            simpa using this.1
          rw [R.rows] at h1
          obtain ⟨p2, h2, rfl⟩ := List.mem_map.mp h1
          exact ⟨p2.2, p2.1, rfl, R.tup p2 h2⟩
        · try refine wpAny_bind (wpAny_pure ?_)
          exact hrest
    · rw [hj, show c + (z - c) = z by omega] at hp
      have hp' : t.probe (fun i => (es[i]?.map (·.1)).getD 0) (thash P w k) (sd.getD (t.probeStart (thash P w k))) = some (.empty (way t.mask (thash P w k) z) none) := by rw [hsd]; exact hp
      rw [hp']
      exact wpAny_pure hQ
/-- the table laid anew -/
theorem relay_set {o : Obj} (ho : s.heap.get? a = some o) (hex : o.ExactSet) (hd : o.data = .set es ep t) (hr : es.toList = rowsOf P w L) (T : Tk0 t L.length) (hfl : L.length ≤ t.mask) (tup : ∀ p ∈ L, IsT P w s.heap p.2 p.1)
    (pl : t.plain = true) (ld : w.params.followText "set-order" = true ∨ t.led = true) {want m : Nat} (hw : SetTable.sizeAbove want = m + 1) (hm : Msk m) (hn : L.length * 5 < m * 3) {Q : Unit → Shared → Prop}
    (hQ : ∀ h' L' es' ep' t', Heap.SameBut a s.heap h' → SetD P w h' a L' es' ep' t' → L'.Perm L → Q () { s with heap := h' }) : wpAny (model P w) A (setRelay a want) Q E s := by
  have hl := rows_len hr
  have hmb := hm.odd
  have hf : t.fits es.size = true := by
    have := T.sz
    unfold SetTable.fits SetTable.fill
    rw [Bool.and_eq_true, beq_iff_eq, decide_eq_true_eq, T.dm]
    refine ⟨by omega, ?_⟩
    show t.place.size + 0 ≤ t.mask
    omega
  obtain ⟨t', od, e, pm, T', em, el, epl⟩ := relay_tab t (hs := es.map (·.1)) (want := want) (m := m) (by omega) hm (by rw [Array.size_map]; omega)
  rw [Array.size_map, hl] at pm T'
  obtain ⟨L2, r1, r2, _⟩ := order_rows L es od hr pm
  have hs2 := rows_len r1
  rw [r2.length_eq] at hs2
  rw [setRelay_eq]
  refine wpAny_bind (wpAny_setState_of ho hd hf ?_)
  dsimp only
  refine wp_if_neg (by rw [sizeLine_eq, hw]; omega) ?_
  try refine wpAny_bind (wpAny_pure ?_)
  rw [e]
  dsimp only
  refine wpAny_bind (wp_if_neg (by rw [hs2, hl]; simp) ?_)
  try refine wpAny_bind (wpAny_pure ?_)
  refine wpAny_pure (wpAny_storeSet_of ho hd ?_ (by rw [hs2, sizeLine_eq]; omega))
  have sb : Heap.SameBut a s.heap (s.heap.update a (Obj.putSet (od.filterMap (es[·]?)) t')) := Heap.SameBut.update ..
  refine hQ _ L2 _ (ep + 1) t' sb ⟨⟨_, store_at ho hd, ⟨hex.1, hex.2.1, hex.2.2⟩, rfl⟩, r1, by rw [r2.length_eq]; exact T', fun p hp => isT_same (tup p (r2.mem_iff.mp hp)) ho hd sb, by rw [epl]; exact pl, by rw [el]; exact ld, by rw [r2.length_eq, em]; exact hn⟩ r2
/-- a tuple that is not there is put in -/
theorem put_set (R : SetD P w s.heap a L es ep t) {x : Addr} {k : List Int} (hx : IsT P w s.heap k x) (hk : ¬ k ∈ L.map (·.2)) (hu : A.units < cLine) (hfew : L.length + 1 ≤ 1200) {Q : Bool → Shared → Prop}
    (hQ : ∀ h' L' es' ep' t', Heap.SameBut a s.heap h' → SetD P w h' a L' es' ep' t' → L'.Perm ((x, k) :: L) → Q true { s with heap := h' }) :
    wpAny (model P w) A (setAddHashed a (.ref x) (thash P w k)) Q E s := by
  obtain ⟨o, ho, hex, hd⟩ := R.ob
  have hl := rows_len R.rows
  have hroom := R.room
  have hmb := R.tab.mok.odd
  obtain ⟨z, hz, hz1, hz2⟩ := R.tab.first (by omega) (thash P w k)
  have hzb : z < 100000 := by
    have : SetTable.turns t.mask ≤ 2100 := by unfold SetTable.turns; omega
    omega
  unfold setAddHashed
  refine wpAny_holding ?_
  rw [show (100000 : Nat) = 99999 + 1 from rfl, setAddHashedIn_succ]
  refine wpAny_bind (wpAny_setState_of ho hd R.fits ?_)
  dsimp only
  refine wp_if_neg (by simp [byScan, Value.scannable]) ?_
  try refine wpAny_bind (wpAny_pure ?_)
  refine wpAny_bind ?_
  unfold setSearch
  refine seek_from R hx hk hu hz hz1 hz2 ?_ 100000 0 none rfl (Nat.zero_le _) (by omega)
  dsimp only
  refine wpAny_bind (wpAny_setState_of ho hd R.fits ?_)
  dsimp only
  obtain ⟨p1, p2, p3, p4, p5, p6⟩ := R.tab.put hz1
  have hpl : (t.put (way t.mask (thash P w k) z)).1.plain = true := by rw [p5]; exact R.plain
  generalize t.put (way t.mask (thash P w k) z) = pt at p1 p2 p3 p4 p5 p6 hpl ⊢
  obtain ⟨t1, b⟩ := pt
  dsimp only at p1 p2 p3 p4 p5 p6 hpl ⊢
  subst p1
  first
    | (refine wpAny_bind ?_; refine wp_if_pos hpl ?_; refine hashBy_tup hx ?_)
    | refine wp_if_pos hpl (wpAny_bind (hashBy_tup hx ?_))
  simp only [if_true]
  generalize SetTable.below t.place (way t.mask (thash P w k) z) = b
  have hin : (SetTable.insertAt es b (thash P w k, Value.ref x)).toList = rowsOf P w (L.take b ++ (x, k) :: L.drop b) := by rw [SetTable.toList_insertAt, R.rows, rows_put]
  have pm := put_perm L b (x, k)
  generalize SetTable.insertAt es b (thash P w k, Value.ref x) = es1 at hin ⊢
  generalize L.take b ++ (x, k) :: L.drop b = L1 at pm hin
  have hL1 : L1.length = L.length + 1 := pm.length_eq
  have he1 := rows_len hin
  refine wpAny_bind (wpAny_storeSet_of ho hd ?_ (by rw [he1, hL1, sizeLine_eq]; omega))
  have sb : Heap.SameBut a s.heap (s.heap.update a (Obj.putSet es1 t1)) := Heap.SameBut.update ..
  have ho1 := store_at (es' := es1) (t' := t1) ho hd
  generalize s.heap.update a (Obj.putSet es1 t1) = h1 at sb ho1 ⊢
  have tup1 : ∀ p ∈ L1, IsT P w h1 p.2 p.1 := fun p hp => by
    rcases List.mem_cons.mp (pm.mem_iff.mp hp) with rfl | hp
    · exact isT_same hx ho hd sb
    · exact isT_same (R.tup p hp) ho hd sb
  have ld1 : w.params.followText "set-order" = true ∨ t1.led = true := by rw [p4]; exact R.led
  rw [← hL1] at p2 p6
  by_cases hfull : t1.tooFull = true
  · first
      | (refine wpAny_bind ?_; refine wp_if_pos (by simp [hfull]) ?_)
      | (refine wp_if_pos (by simp [hfull]) ?_; refine wpAny_bind ?_)
    have hge : t1.mask * 3 ≤ L1.length * 5 := by
      have q := hfull
      unfold SetTable.tooFull at q
      rw [decide_eq_true_eq, p6] at q
      omega
    rw [hl]
    have hM : ∃ m, SetTable.sizeAbove (SetTable.grown (L.length + 1)) = m + 1 ∧ Msk m ∧ L1.length * 5 < m * 3 := by
      rw [p3] at hge
      rcases R.tab.mok with e | e | e | e | e <;> rw [e] at hge hroom
      · exact ⟨31, by rw [show L.length + 1 = 5 by omega]; exact above_5, .inr (.inl rfl), by omega⟩
      · exact ⟨127, by rw [show L.length + 1 = 19 by omega]; exact above_19, .inr (.inr (.inl rfl)), by omega⟩
      · exact ⟨511, by rw [show L.length + 1 = 77 by omega]; exact above_77, .inr (.inr (.inr (.inl rfl))), by omega⟩
      · exact ⟨2047, by rw [show L.length + 1 = 307 by omega]; exact above_307, .inr (.inr (.inr (.inr rfl))), by omega⟩
      · omega
    obtain ⟨m, m1, m2, m3⟩ := hM
    refine relay_set (s := { s with heap := h1 }) ho1 ⟨hex.1, hex.2.1, hex.2.2⟩ rfl hin p2 (by omega) tup1 hpl ld1 m1 m2 m3 fun h2 L2 es2 ep2 t2 sb2 R2 pm2 => ?_
    exact wpAny_pure (hQ h2 L2 es2 ep2 t2 (sb.trans sb2) R2 (pm2.trans pm))
  · first
      | refine wp_if_neg (by simp [hfull]) ?_
      | (refine wpAny_bind ?_; refine wp_if_neg (by simp [hfull]) ?_; refine wpAny_pure ?_)
    refine wpAny_pure (hQ h1 L1 es1 (ep + 1) t1 sb ⟨⟨_, ho1, ⟨hex.1, hex.2.1, hex.2.2⟩, rfl⟩, hin, p2, tup1, hpl, ld1, ?_⟩ pm)
    have q := hfull
    unfold SetTable.tooFull at q
    rw [decide_eq_true_eq, p6] at q
    omega
theorem SetD.keep {h h' : Heap} (R : SetD P w h a L es ep t) (hk : ∀ o, h.get? a = some o → h'.get? a = some o) (ht : ∀ p ∈ L, IsT P w h' p.2 p.1) : SetD P w h' a L es ep t := by
  obtain ⟨o, ho, r⟩ := R.ob
  exact ⟨⟨o, hk o ho, r⟩, R.rows, R.tab, ht, R.plain, R.led, R.room⟩
theorem setD_new {h : Heap} {a : Addr} (ho : h.get? a = some (set0 w)) : SetD P w h a [] #[] 0 (.fresh 0 0 (!w.params.followText "set-order")) := by
  refine ⟨⟨_, ho, ⟨rfl, rfl, rfl⟩, rfl⟩, rfl, ⟨List.Pairwise.nil, rfl, rfl, .inl rfl⟩, fun p hp => absurd hp (by simp), rfl, ?_, by show 0 * 5 < 7 * 3; decide⟩
  show _ ∨ (!w.params.followText "set-order") = true
  cases w.params.followText "set-order"
  · exact .inr rfl
  · exact .inl rfl
/-- the loop over tuples -/
theorem setD_loop {I S : Addr} {fp wr : List Addr} {n : Nat} {Pv : Nat → Value → Prop} {St : Nat → Heap → Prop} {R : Result → Shared → Prop} (W : Walks P w A.in1 I fp wr n Pv St) (hSf : S ∉ fp) (s0 : Shared) (ks : List (Addr × List Int)) (hn : n = ks.length) (hb : ks.length ≤ 1200) (hnd : (ks.map (·.2)).Nodup) (hu : A.in1.units < cLine)
    (hS0 : s0.heap.get? S = none) (hw0 : ∀ b ∈ wr, s0.heap.get? b = none) (hT : ∀ p ∈ ks, IsT P w s0.heap p.2 p.1) (hval : ∀ i v, Pv i v → ∃ p, ks[i]? = some p ∧ v = .ref p.1)
    (hR : ∀ h' tk L es ep t, (∀ b o, s0.heap.get? b = some o → h'.get? b = some o) → SetD P w h' S L es ep t → L.Perm ks → R (.ok (.ret .none)) { s0 with heap := h', toks := tk }) :
    ∀ (k i : Nat) (h : Heap) (tk : Nat) (L : List (Addr × List Int)) (es : Array (Int × Value)) (ep : Nat) (t : SetTable), n - i = k → i ≤ n → St i h → (∀ b o, s0.heap.get? b = some o → h.get? b = some o) → SetD P w h S L es ep t → L.Perm (ks.take i) →
      codeAny (model P w) A (.builtin "set.update.loop" ⟨[.ref S, .ref I], []⟩) R { s0 with heap := h, toks := tk } := by
  have hSw : S ∉ wr := fun h => hSf (W.sub _ h)
  have up : ∀ {h h' : Heap}, (∀ b o, s0.heap.get? b = some o → h.get? b = some o) → (∀ b o, b ∉ wr → h.get? b = some o → h'.get? b = some o) → ∀ b o, s0.heap.get? b = some o → h'.get? b = some o := fun h1 h2 b o q => h2 b o (fun z => by rw [hw0 b z] at q; cases q) (h1 b o q)
  have tt : ∀ {h : Heap}, (∀ b o, s0.heap.get? b = some o → h.get? b = some o) → ∀ p ∈ ks, IsT P w h p.2 p.1 := fun h1 p hp => isT_keep (hT p hp) h1
  intro k
  induction k with
  | zero =>
    intro i h tk L es ep t hk hi hst hkp hS pm
    obtain rfl : i = n := by omega
    refine codeAny_builtin F.entry_set_update_loop ?_; rw [Around.under_plainId F.plain_set_update_loop _]
    show wpAny _ A.in1 (pyNext (.ref I) >>= _) _ _ ({ s0 with heap := h, toks := tk } : Shared)
    refine wpAny_bind (W.done _ _ _ hst fun h' tk' hk' => ?_); show wpAny _ A.in1 (ret Value.none) _ _ _
    rw [List.take_of_length_le (by omega)] at pm
    have hkp' := up hkp hk'
    exact wpAny_pure (hR h' tk' L es ep t hkp' (hS.keep (fun o q => hk' S o hSw q) fun p hp => tt hkp' p (pm.mem_iff.mp hp)) pm)
  | succ k ih =>
    intro i h tk L es ep t hk hi hst hkp hS pm
    have hlt : i < n := by omega
    refine codeAny_builtin F.entry_set_update_loop ?_; rw [Around.under_plainId F.plain_set_update_loop _]
    show wpAny _ A.in1 (pyNext (.ref I) >>= _) _ _ ({ s0 with heap := h, toks := tk } : Shared)
    refine wpAny_bind (W.item i _ _ _ hlt hst fun v h' tk' hP hst' hk' => ?_)
    obtain ⟨p, hp, rfl⟩ := hval i v hP
    have hkp' := up hkp hk'
    have hsub : ∀ q ∈ L, q ∈ ks := fun q hq => List.mem_of_mem_take (pm.mem_iff.mp hq)
    have hS' : SetD P w h' S L es ep t := hS.keep (fun o q => hk' S o hSw q) fun q hq => tt hkp' q (hsub q hq)
    have hx : IsT P w h' p.2 p.1 := tt hkp' p (List.mem_of_getElem? hp)
    have htk : ks.take (i + 1) = ks.take i ++ [p] := by rw [List.take_add_one, hp]; rfl
    have hnew : ¬ p.2 ∈ L.map (·.2) := fun hm => by
      obtain ⟨q, hq, e⟩ := List.mem_map.mp hm
      have h2 : ((ks.take (i + 1)).map (·.2)).Nodup := by
        rw [List.map_take]
        exact hnd.sublist (List.take_sublist _ _)
      rw [htk, List.map_append, List.nodup_append] at h2
      exact h2.2.2 q.2 (List.mem_map.mpr ⟨q, pm.mem_iff.mp hq, rfl⟩) p.2 (by simp) e
    have hll : L.length ≤ i := by rw [pm.length_eq]; exact Nat.le_trans (List.length_take_le _ _) (Nat.le_refl _)
    show wpAny _ A.in1 (holding [Value.ref p.1] (setAdd S (.ref p.1)) >>= _) _ _ _
    refine wpAny_bind (wpAny_holding ?_); unfold setAdd
    refine wpAny_holding (wpAny_bind (wpAny_pyHash_tuple hu hx ?_))
    refine put_set hS' hx hnew hu (by omega) fun h2 L' es' ep' t' hsb hS2 pm2 => ?_
    refine wpAny_pure ⟨plainId_quiet F.plain_set_update_loop _, ?_⟩
    refine ih (i + 1) h2 _ L' es' ep' t' (by omega) hlt (W.frame _ _ _ hst' fun b hb o q => ?_) (fun b o q => ?_) hS2 ?_
    · rw [hsb.2 b fun e => hSf (e ▸ hb)]; exact q
    · rw [hsb.2 b fun e => by rw [e, hS0] at q; cases q]; exact hkp' b o q
    · rw [htk]
      exact pm2.trans ((pm.cons p).trans (List.perm_append_comm (l₁ := [p]) (l₂ := ks.take i)))
end
end DP
set_option Elab.async false
set_option linter.all false
set_option maxRecDepth 100000
set_option maxHeartbeats 1000000
namespace DP
open PySem L2 PyProof.Rows PySem.Spec
/-! ### set(dates), sorted(set(dates)) -/
theorem perm_back {α β : Type} {f : α → β} {l m : List β} (h : l.Perm m) : ∀ {r : List α}, m = r.map f → ∃ l' : List α, l = l'.map f ∧ l'.Perm r := by
  induction h with
  | nil => intro r e; exact ⟨[], rfl, by rw [List.map_eq_nil_iff.mp e.symm]⟩
  | cons x _ ih =>
    intro r e
    cases r with
    | nil => cases e
    | cons a r =>
      rw [List.map_cons] at e
      injection e with e1 e2
      obtain ⟨l', e3, p⟩ := ih e2
      exact ⟨a :: l', by rw [List.map_cons, e1, e3], p.cons a⟩
  | swap x y l =>
    intro r e
    match r, e with
    | a :: b :: r, e =>
      rw [List.map_cons, List.map_cons] at e
      injection e with e1 e2
      injection e2 with e2 e3
      exact ⟨b :: a :: r, by rw [List.map_cons, List.map_cons, e1, e2, e3], .swap a b r⟩
  | trans _ _ ih1 ih2 =>
    intro r e
    obtain ⟨l2, e2, p2⟩ := ih2 e
    obtain ⟨l1, e1, p1⟩ := ih1 e2
    exact ⟨l1, e1, p1.trans p2⟩
def dtI (d : Dt) : List Int := [d.1, d.2.1, d.2.2]
theorem dtI_inj {d e : Dt} (h : dtI d = dtI e) : d = e := by
  obtain ⟨a, b, c⟩ := d
  obtain ⟨a', b', c'⟩ := e
  unfold dtI at h
  simp only [List.cons.injEq, and_true] at h
  rw [h.1, h.2.1, h.2.2]
abbrev AD := Addr × Dt
def adK (p : AD) : Addr × List Int := (p.1, dtI p.2)
theorem dates_ad {K : PySem.W.Frag} {H : Hp} {ds : List Dt} {xs : List V} (h : DatesV K H ds xs) : ∃ ks : List AD, xs = ks.map (fun p => V.ref p.1) ∧ ks.map (·.2) = ds ∧ ∀ p ∈ ks, SqT K H p.1 ((dtI p.2).map V.int) := by
  induction h with
  | nil => exact ⟨[], rfl, rfl, fun p hp => absurd hp (by simp)⟩
  | @cons d v ds xs r t ih =>
    obtain ⟨a, rfl, hq⟩ := r
    obtain ⟨ks, e1, e2, e3⟩ := ih
    refine ⟨(a, d) :: ks, by rw [List.map_cons, e1], by rw [List.map_cons, e2], fun p hp => ?_⟩
    rcases List.mem_cons.mp hp with rfl | hp
    · exact hq
    · exact e3 p hp
theorem ad_dates {K : PySem.W.Frag} {H : Hp} : ∀ {ks : List AD}, (∀ p ∈ ks, SqT K H p.1 ((dtI p.2).map V.int)) → DatesV K H (ks.map (·.2)) (ks.map fun p => V.ref p.1)
  | [], _ => .nil
  | p :: ks, h => .cons ⟨p.1, rfl, h p List.mem_cons_self⟩ (ad_dates fun q hq => h q (List.mem_cons_of_mem _ hq))
structure SetD0 (P : Program) (w : World) (h : Heap) (a : Addr) (L : List (Addr × List Int)) : Prop where
  ex : ∃ es ep t, (∃ o, h.get? a = some o ∧ o.ExactSet ∧ o.data = .set es ep t) ∧ es.toList = rowsOf P w L ∧ Tk0 t L.length ∧ t.plain = true ∧ (w.params.followText "set-order" = true ∨ t.led = true) ∧ L.length * 5 < t.mask * 3
def SetDO (P : Program) (w : World) (a : Addr) (L : List (Addr × List Int)) : HO := .ext fun h => SetD0 P w h a L
theorem setDO_new {P : Program} {w : World} {H : Hp} {h : Heap} {a : Addr} {L : List (Addr × List Int)} (R : SetD0 P w h a L) : ObjOk P w H h a (SetDO P w a L) := by
  have ⟨es, ep, t, ⟨o, ho, r⟩, q⟩ := R.ex
  refine ⟨R, ⟨o, ho⟩, fun h1 h2 p k => ?_⟩
  have ⟨es', ep', t', ⟨o', ho', r'⟩, q'⟩ := SetD0.ex p
  exact ⟨es', ep', t', ⟨o', k o' ho', r'⟩, q'⟩
/-- the rows are the dates, in some order -/
def RowsD (K : PySem.W.Frag) (H : Hp) (ds : List Dt) (L : List (Addr × List Int)) : Prop := ∃ ks : List AD, L.Perm (ks.map adK) ∧ ks.map (·.2) = ds ∧ ∀ p ∈ ks, SqT K H p.1 ((dtI p.2).map V.int)
theorem RowsD.ex {K : PySem.W.Frag} {H H' : Hp} {ds : List Dt} {L : List (Addr × List Int)} (x : Ex H H') (h : RowsD K H ds L) : RowsD K H' ds L := by
  obtain ⟨ks, h1, h2, h3⟩ := h
  exact ⟨ks, h1, h2, fun p hp => sqt_ex x (h3 p hp)⟩
theorem eq_of_ndmap {ks : List AD} (hn : (ks.map (·.2)).Nodup) {p q : AD} (hp : p ∈ ks) (hq : q ∈ ks) (e : p.2 = q.2) : p = q := by
  induction ks with
  | nil => cases hp
  | cons r ks ih =>
    rw [List.map_cons, List.nodup_cons] at hn
    rcases List.mem_cons.mp hp with e1 | hp
    · rcases List.mem_cons.mp hq with e2 | hq
      · rw [e1, e2]
      · exact absurd (List.mem_map.mpr ⟨q, hq, by rw [← e1]; exact e.symm⟩) hn.1
    · rcases List.mem_cons.mp hq with e2 | hq
      · exact absurd (List.mem_map.mpr ⟨p, hp, by rw [← e2]; exact e⟩) hn.1
      · exact ih hn.2 hp hq
theorem dlt_tri {a b : Dt} (h1 : ¬ dlt b a) (h2 : ¬ dlt a b) : a = b := by
  obtain ⟨x, y, z⟩ := a
  obtain ⟨x', y', z'⟩ := b
  unfold dlt at h1 h2
  dsimp only at h1 h2
  have e1 : x = x' := by omega
  have e2 : y = y' := by omega
  have e3 : z = z' := by omega
  rw [e1, e2, e3]
theorem each_refs {kv : List AD} : ∀ {l : List Value} {ks : List AD}, PySem.W.EachIs (fun (v : Value) (p : AD) => v = .ref p.1 ∧ p ∈ kv) l ks → l = ks.map fun p => Value.ref p.1
  | _, _, .nil => rfl
  | _, _, .cons h t => by rw [h.1, each_refs t]; rfl
section
variable {X : Cx} {P : Program} {w : World} {K : PySem.W.Frag} {mg : Str → Option Value} {base : Heap} {N : List Str} {sc : Scope} {k : Nat} {lv : Bool}
variable {H : Hp} {Q : VK} {a : Addr} {xs : List V} {ds : List Dt}
/-- set(dates), all of them different -/
theorem c_setDt (C : Kx X P w K mg base N sc k lv) (hq : SqL K H a xs) (hd : DatesV K H ds xs) (hnd : ds.Nodup) (hl : ds.length ≤ 1200) (h : ∀ p L, H p = none → RowsD K H ds L → Q (.ref p) (upd H p (SetDO P w p L))) : wC X (.type "set") [.ref a] H Q := by
  have e1 := C.eprog; have e2 := C.ew; have e3 := C.eK
  subst e1 e2 e3
  refine ⟨fun pins s σ us I rv => ?_⟩
  obtain ⟨ks, rfl, rfl, hT⟩ := dates_ad hd
  obtain ⟨its, r, pl, hsz⟩ := I.list hq
  rw [Vals.ref1 rv]
  have hit : its = (ks.map adK).map fun p => Value.ref p.1 := by
    refine refs_of_vals (ks := ks.map adK) ?_
    rw [List.map_map]
    exact r
  have hln : its.length = ks.length := by rw [hit, List.length_map, List.length_map]
  have hlt : a < s.heap.objs.size := by obtain ⟨_, e, _⟩ := pl.isList; exact Heap.lt_size e
  have hps : (s.heap.push (set0 X.w)).objs.size = s.heap.objs.size + 1 := by simp [Heap.push]
  have hne : a ≠ (s.heap.push (set0 X.w)).objs.size := by rw [hps]; exact Nat.ne_of_lt (Nat.lt_succ_of_lt hlt)
  have hh2 : X.A.in1.in1.in1.handled = none := by simp [I.ok.hd C.calm]
  have hz : ∀ b, s.heap.objs.size ≤ b → s.heap.get? b = none := fun b hb => by
    cases q : s.heap.get? b with
    | none => rfl
    | some o => exact absurd (Nat.lt_of_lt_of_le (Heap.lt_size q) hb) (Nat.lt_irrefl _)
  have hTs : ∀ p ∈ ks.map adK, IsT X.prog X.w s.heap p.2 p.1 := fun p hp => by
    obtain ⟨q, hq, rfl⟩ := List.mem_map.mp hp
    exact I.isT (hT q hq)
  have hnk : ((ks.map adK).map (·.2)).Nodup := by
    rw [List.map_map]
    have e : ks.map ((·.2) ∘ adK) = (ks.map (·.2)).map dtI := by rw [List.map_map]; rfl
    rw [e]
    exact List.pairwise_map.mpr (List.Pairwise.imp (fun hne e => hne (dtI_inj e)) hnd)
  rw [List.length_map] at hl
  have hu : X.A.in1.in1.in1.units < cLine := by have := C.u64; simp; omega
  refine call_setL (Good := fun h' => ∃ L, SetD0 X.prog X.w h' s.heap.objs.size L ∧ L.Perm (ks.map adK)) pl.isList (fun R hR => ?_) fun h' tk hk ⟨L, hS, pm⟩ => ?_
  · have W := Walks.list (prog := X.prog) (w := X.w) (A := X.A.in1.in1.in1) hh2 (s.heap.push (set0 X.w)).objs.size a hne its.toArray
    refine setD_loop W (fun hm => ?_) s (ks.map adK) (by rw [List.size_toArray, List.length_map, hln]) (by rw [List.length_map]; exact hl) hnk hu (hz _ (Nat.le_refl _)) (fun b hb => hz b (by rw [List.mem_singleton.mp hb, hps]; omega)) hTs (fun i v hv => ?_) (fun h' tk L es ep t hk hS pm => hR h' tk hk ⟨L, ⟨es, ep, t, hS.ob, hS.rows, hS.tab, hS.plain, hS.led, hS.room⟩, pm⟩) _ 0 _ _ [] #[] 0 _ rfl (Nat.zero_le _) ⟨⟨_, Heap.get?_push_size _ rfl, rfl, rfl⟩, (pl.isList.push _).push _⟩ (fun b o q => Heap.get?_push_of_some _ (Heap.get?_push_of_some _ q)) (setD_new (Heap.get?_push_of_some _ (Heap.get?_push_size _ rfl))) (List.Perm.refl _)
    · simp only [List.mem_cons, List.not_mem_nil, or_false] at hm
      rcases hm with hm | hm
      · rw [hps] at hm; exact Nat.ne_of_lt (Nat.lt_succ_self _) hm
      · exact Nat.ne_of_gt hlt hm
    · have hv : its[i]? = some v := by simpa using hv
      rw [hit, List.getElem?_map] at hv
      cases hp : (ks.map adK)[i]? with
      | none => rw [hp] at hv; cases hv
      | some p => rw [hp] at hv; cases hv; exact ⟨p, rfl, rfl⟩
  · exact ⟨.ref _, upd H s.heap.objs.size (SetDO X.prog X.w s.heap.objs.size L), I.laid (t' := tk) hk (Nat.le_refl _) (setDO_new hS), rfl, h _ L I.fresh ⟨ks, pm, rfl, hT⟩⟩
theorem reads_dt {P : Program} {w : World} {h : Heap} {b : Addr} {d : Dt} (x : IsT P w h (dtI d) b) : Reads h (.ref b) (dD d) [] := by
  obtain ⟨o, its, n, ho, hc, hd, hi⟩ := x
  have hr : ∀ {ns : List Int} {vs : List Value}, ItemsAre (intKind P w) ns vs → ReadsAll h vs (ns.map PyData.int) [] := by
    intro ns vs hi
    induction hi with
    | nil => exact .nil
    | @cons k0 v ks vs h1 _ ih =>
      obtain ⟨t, rfl⟩ := Value.isInt_shape h1
      exact ReadsAll.cons (as := []) (.int k0 t) ih
  exact .tuple ho hc hd (hr hi)
/-- sorted(set(dates)) -/
theorem c_sortDt (C : Kx X P w K mg base N sc k lv) {L : List (Addr × List Int)} (ha : H a = some (SetDO P w a L)) (hR : RowsD K H ds L) (hs : ds.Pairwise dlt) (hl : ds.length ≤ 1200) (h : ∀ ys p, DatesV K H ds ys → H p = none → Q (.ref p) (upd H p (.lst ys))) : wC X (.builtin "sorted") [.ref a] H Q := by
  have e1 := C.eprog; have e2 := C.ew; have e3 := C.eK
  subst e1 e2 e3
  refine ⟨fun pins s σ us I rv => ?_⟩
  rw [Vals.ref1 rv]
  obtain ⟨ks, pm, rfl, hT⟩ := hR
  have R0 : SetD0 X.prog X.w s.heap a L := (I.hok a _ ha).1
  obtain ⟨es, ep, t, ⟨o, ho, hex, hd⟩, hrow, T, hpl, hld, hroom⟩ := R0.ex
  have hTs : ∀ p ∈ ks, IsT X.prog X.w s.heap (dtI p.2) p.1 := fun p hp => I.isT (hT p hp)
  have hLl : L.length ≤ 1200 := by rw [pm.length_eq, List.length_map]; rw [List.length_map] at hl; exact hl
  have R : SetD X.prog X.w s.heap a L es ep t := ⟨⟨o, ho, hex, hd⟩, hrow, T, fun p hp => by
    obtain ⟨q, hq, rfl⟩ := List.mem_map.mp (pm.mem_iff.mp hp)
    exact hTs q hq, hpl, hld, hroom⟩
  have hsz := rows_len hrow
  refine Calls.call_function_entry kind_sorted plain_sorted entry_sorted (args_sorted1 _) ?_
  unfold Builtin.«sorted»
  refine wpAny_bind (m := checkCount "sorted" 1 1 _) (wpAny_pure ?_)
  refine wpAny_bind (collect_set (A := X.A.in1) (by simp [I.ok.hd C.calm]) ⟨o, ho, hex.1, hd⟩ R.fits (by unfold scanBound; omega) T.ris hld fun s1 vs k1 hz1 g1 o1 pv => ?_)
  have pv' : vs.Perm (ks.map fun p => Value.ref p.1) := by
    refine pv.trans ?_
    rw [hrow]
    unfold rowsOf
    rw [List.map_map]
    have q := pm.map (fun p : Addr × List Int => Value.ref p.1)
    rw [List.map_map] at q
    exact q
  obtain ⟨kv, rfl, pk⟩ := perm_back pv' rfl
  have hkl : kv.length ≤ 1200 := by rw [pk.length_eq]; rw [List.length_map] at hl; exact hl
  refine wpAny_bind (wpAny_newList ?_ (by rw [List.length_map, sizeLine_eq]; omega))
  have hoL : (s1.heap.push (seqObj "list" (kv.map fun p => Value.ref p.1).toArray 0)).get? s1.heap.objs.size = some (seqObj "list" (kv.map fun p => Value.ref p.1).toArray 0) := Heap.get?_push_size _ rfl
  have hrd : ∀ p ∈ kv, Reads (s1.heap.push (seqObj "list" (kv.map fun p => Value.ref p.1).toArray 0)) (.ref p.1) (dD p.2) [] := fun p hp => reads_dt (P := X.prog) (w := X.w) (isT_keep (hTs p (pk.mem_iff.mp hp)) fun b u e => Heap.get?_push_of_some _ (k1 b u e))
  have eR : ∀ {l : List AD}, (∀ p ∈ l, p ∈ kv) → PySem.W.EachIs (fun (v : Value) (p : AD) => v = .ref p.1 ∧ p ∈ kv) (l.map fun p => Value.ref p.1) l := by
    intro l
    induction l with
    | nil => intro _; exact .nil
    | cons p l ih => intro hp; exact .cons ⟨rfl, hp p List.mem_cons_self⟩ (ih fun q hq => hp q (List.mem_cons_of_mem _ hq))
  have e0 := eR (l := kv) fun p hp => hp
  refine wpAny_bind (wpAny_holding (PySem.W.list_sort_data (s := { s1 with heap := s1.heap.push (seqObj "list" (kv.map fun p => Value.ref p.1).toArray 0) }) (enc := fun p : AD => dD p.2) hoL e0 (e0.mono fun v p q => ⟨[], by rw [q.1]; exact hrd p q.2, by simp⟩) (PySem.W.AllAlike.of fun p q => alike_dD p.2 q.2) (PySem.W.Sortable.tuples fun p => ⟨_, _, rfl⟩) (by rw [sizeLine_eq]; omega) (fun p _ => by
    have := C.u64
    have : (dD p.2).depth ≤ 1 := (sh_dD 0 p.2).2
    simp
    omega) fun out hout eo => ?_))
  obtain ⟨c, hc⟩ := sortedHeap_at (vs := kv.map fun p => Value.ref p.1) (out := out.toArray) hoL
  have hm : (kv.mergeSort (PySem.W.dataLe false fun p : AD => dD p.2)) = ks := by
    refine perm_eq_of (R := fun p q : AD => PySem.W.dataLe false (fun p : AD => dD p.2) p q = true) ((List.mergeSort_perm _ _).trans pk) (PySem.W.sort_pairwise (PySem.W.sortLe_total _ _ _) _) ?_ fun p hp q hq h1 h2 => ?_
    · refine List.Pairwise.imp (fun {p q} hlt => ?_) (List.pairwise_map.mp hs)
      rw [PySem.W.dataLe_eq]
      show (!PySem.W.dataLt (dD q.2) (dD p.2)) = true
      rw [dataLt_dD, decide_eq_false (dlt_asymm hlt)]
      rfl
    · rw [PySem.W.dataLe_eq] at h1 h2
      have h1 : (!PySem.W.dataLt (dD q.2) (dD p.2)) = true := h1
      have h2 : (!PySem.W.dataLt (dD p.2) (dD q.2)) = true := h2
      rw [dataLt_dD, Bool.not_eq_true', decide_eq_false_iff_not] at h1 h2
      have hpk := pk.mem_iff.mp ((List.mergeSort_perm _ _).mem_iff.mp hp)
      have hqk := pk.mem_iff.mp ((List.mergeSort_perm _ _).mem_iff.mp hq)
      exact eq_of_ndmap (sorted_nodup hs) hpk hqk (dlt_tri h1 h2)
  rw [hm] at eo
  have hout2 : out = ks.map fun p => Value.ref p.1 := each_refs eo
  have hkeep : ∀ b u, s.heap.get? b = some u → (sortedHeap (s1.heap.push (seqObj "list" (kv.map fun p => Value.ref p.1).toArray 0)) s1.heap.objs.size (kv.map fun p => Value.ref p.1) out.toArray).get? b = some u := fun b u e => by
    have q := k1 b u e
    have hb := Heap.lt_size q
    rw [sortedHeap_old (Nat.ne_of_lt hb) (by rw [size_push']; exact Nat.lt_succ_of_lt hb)]
    exact Heap.get?_push_of_some _ q
  have hnew : H s1.heap.objs.size = none := I.hok.fresh hz1
  have hvs : Vals (ks.map fun p => V.ref p.1) out := by
    rw [hout2]
    have q := vals_of_refs (ks.map adK)
    rw [List.map_map, List.map_map] at q
    exact q
  have hlen : (ks.map fun p => V.ref p.1).length ≤ sizeLine := by rw [List.length_map] at hl ⊢; rw [sizeLine_eq]; omega
  obtain ⟨h1', g1', d1', t1', o1'⟩ := s1
  obtain ⟨h0', g0', d0', t0', o0'⟩ := s
  dsimp only at g1 o1
  subst g1 o1
  have J : Inv X pins σ (upd H h1'.objs.size (.lst (ks.map fun p => V.ref p.1))) ⟨sortedHeap (h1'.push (seqObj "list" (kv.map fun p => Value.ref p.1).toArray 0)) h1'.objs.size (kv.map fun p => Value.ref p.1) out.toArray, g1', d1', t1', o1'⟩ := I.call (ch := []) (Un.laid hkeep hz1 hnew) (I.hok.laid hkeep hz1 ⟨hlen, out, c, hvs, hc⟩) I.bare (fun _ z => nomatch z)
  exact wpAny_pure ⟨_, rfl, .ref _, _, J, rfl, h _ _ (ad_dates hT) hnew⟩
end
end DP
set_option Elab.async false
set_option linter.all false
set_option maxRecDepth 100000
set_option maxHeartbeats 1000000
/-! texts of dates by their digits -/
namespace DP
open PySem L2 PyProof.Rows
def dg (n : Nat) : List Nat := if n < 10 then [48 + n] else if n < 100 then [48 + n / 10, 48 + n % 10] else if n < 1000 then [48 + n / 100, 48 + n / 10 % 10, 48 + n % 10] else [48 + n / 1000, 48 + n / 100 % 10, 48 + n / 10 % 10, 48 + n % 10]
def dg2 (n : Nat) : List Nat := [48 + n / 10, 48 + n % 10]
def dg3 (n : Nat) : List Nat := [48 + n / 100, 48 + n / 10 % 10, 48 + n % 10]
def dg4 (n : Nat) : List Nat := [48 + n / 1000, 48 + n / 100 % 10, 48 + n / 10 % 10, 48 + n % 10]
theorem dch {n : Nat} (h : n < 10) : (Nat.digitChar n).toNat = 48 + n := by
  have : ∀ n < 10, (Nat.digitChar n).toNat = 48 + n := by decide
  exact this n h
theorem toD1 {n : Nat} (h : n < 10) : (Nat.toDigits 10 n).map Char.toNat = [48 + n] := by
  rw [Nat.toDigits_of_lt_base h]
  simp only [List.map_cons, List.map_nil, dch h]
theorem toDS {n : Nat} (h : 10 ≤ n) : (Nat.toDigits 10 n).map Char.toNat = (Nat.toDigits 10 (n / 10)).map Char.toNat ++ [48 + n % 10] := by
  rw [Nat.toDigits_of_base_le (by decide) h, List.map_append, List.map_cons, List.map_nil, dch (by omega)]
theorem toD_dg {n : Nat} (h : n ≤ 9999) : (Nat.toDigits 10 n).map Char.toNat = dg n := by
  unfold dg
  by_cases h1 : n < 10
  · rw [if_pos h1, toD1 h1]
  · rw [if_neg h1, toDS (by omega)]
    by_cases h2 : n < 100
    · rw [if_pos h2, toD1 (by omega)]
      rfl
    · rw [if_neg h2, toDS (by omega), Nat.div_div_eq_div_mul]
      by_cases h3 : n < 1000
      · rw [if_pos h3, toD1 (by omega)]
        rfl
      · rw [if_neg h3, toDS (by omega), Nat.div_div_eq_div_mul, toD1 (by omega)]
        rfl
theorem numS_dg {n : Int} (h0 : 0 ≤ n) (h1 : n ≤ 9999) : cs (numS n) = dg n.toNat := by
  have e : n = ((n.toNat : Nat) : Int) := by omega
  unfold numS
  rw [e]
  rw [show cs (Str.ofString (toString ((n.toNat : Nat) : Int))) = _ from PySem.W.KIN.signs_num n.toNat, toD_dg (by omega)]
  rfl
theorem dg_len (n : Nat) : (dg n).length = if n < 10 then 1 else if n < 100 then 2 else if n < 1000 then 3 else 4 := by
  unfold dg
  split
  · rfl
  · split
    · rfl
    · split <;> rfl
theorem numS_length {n : Int} (h0 : 0 ≤ n) (h1 : n ≤ 9999) : (numS n).length = (dg n.toNat).length := by rw [← cs_len, numS_dg h0 h1]
theorem pad_cs {n k : Int} (h0 : 0 ≤ n) (h1 : n ≤ 9999) : cs (padS n k) = List.replicate (k - ((dg n.toNat).length : Int)).toNat 48 ++ dg n.toNat := by
  unfold padS
  rw [cs_app, numS_dg h0 h1, numS_length h0 h1]
  congr 1
  exact mul0_list _
theorem pad1 {n : Int} (h0 : 0 ≤ n) (h1 : n ≤ 9999) : cs (padS n 1) = dg n.toNat := by
  rw [pad_cs h0 h1]
  have : 1 ≤ (dg n.toNat).length := by rw [dg_len]; split; · exact Nat.le_refl _
                                       · split; · decide
                                         · split <;> decide
  rw [show ((1 : Int) - ((dg n.toNat).length : Int)).toNat = 0 by omega]
  rfl
theorem pad2 {n : Int} (h0 : 0 ≤ n) (h1 : n ≤ 99) : cs (padS n 2) = dg2 n.toNat := by
  rw [pad_cs h0 (by omega)]
  have hn : n.toNat ≤ 99 := by omega
  generalize n.toNat = m at hn
  revert m
  decide
theorem pad3 {n : Int} (h0 : 0 ≤ n) (h1 : n ≤ 999) : cs (padS n 3) = dg3 n.toNat := by
  rw [pad_cs h0 (by omega)]
  have hn : n.toNat ≤ 999 := by omega
  generalize n.toNat = m at hn
  have : ∀ m ≤ 999, List.replicate ((3 : Int) - ((dg m).length : Int)).toNat 48 ++ dg m = dg3 m := by decide +kernel
  exact this m hn
theorem pad4 {n : Int} (h0 : 1000 ≤ n) (h1 : n ≤ 9999) : cs (padS n 4) = dg4 n.toNat := by
  rw [pad_cs (by omega) h1]
  have e : dg n.toNat = dg4 n.toNat := by
    unfold dg
    rw [if_neg (by omega), if_neg (by omega), if_neg (by omega)]
    rfl
  rw [e]
  rfl
/-! parts -/
def monL (m : Nat) : List Nat := cs (monNames.getD (m - 1) "")
def wdL (i : Nat) : List Nat := cs (wdNames.getD i "")
section
variable {d : Dt}
theorem cs_D (h : okD d) : cs (pc "D" d) = dg d.2.2.toNat := by
  rw [show pc "D" d = padS d.2.2 1 from pc_i1 rfl rfl rfl]
  unfold okD at h
  exact pad1 (by omega) (by omega)
theorem cs_M (h : okD d) : cs (pc "M" d) = dg d.2.1.toNat := by
  rw [show pc "M" d = padS d.2.1 1 from pc_i1 rfl rfl rfl]
  unfold okD at h
  exact pad1 (by omega) (by omega)
theorem cs_J (h : okD d) : cs (pc "J" d) = dg (piy d).toNat := by
  rw [show pc "J" d = padS (piy d) 1 from pc_i1 rfl rfl rfl]
  have := piy_bd h
  exact pad1 (by omega) (by omega)
theorem cs_DD (h : okD d) : cs (pc "DD" d) = dg2 d.2.2.toNat := by
  rw [show pc "DD" d = padS d.2.2 2 from pc_i2 rfl rfl rfl]
  unfold okD at h
  exact pad2 (by omega) (by omega)
theorem cs_MM (h : okD d) : cs (pc "MM" d) = dg2 d.2.1.toNat := by
  rw [show pc "MM" d = padS d.2.1 2 from pc_i2 rfl rfl rfl]
  unfold okD at h
  exact pad2 (by omega) (by omega)
theorem cs_YY (h : okD d) : cs (pc "YY" d) = dg2 (d.1 % 100).toNat := by
  rw [show pc "YY" d = padS (d.1 % 100) 2 from pc_i2 rfl rfl rfl]
  exact pad2 (by omega) (by omega)
theorem cs_YYYY (h : okD d) (hy : 1000 ≤ d.1) : cs (pc "YYYY" d) = dg4 d.1.toNat := by
  rw [show pc "YYYY" d = padS d.1 4 from pc_i2 rfl rfl rfl]
  unfold okD at h
  exact pad4 hy (by omega)
theorem cs_JJJ (h : okD d) (hj : piy d ≤ 999) : cs (pc "JJJ" d) = dg3 (piy d).toNat := by
  rw [show pc "JJJ" d = padS (piy d) 3 from pc_i2 rfl rfl rfl]
  have := piy_bd h
  exact pad3 (by omega) hj
theorem cs_MON (h : okD d) : cs (pc "MON" d) = monL d.2.1.toNat := by
  rw [show pc "MON" d = monName d.2.1 from pc_s rfl rfl]
  unfold monName monL
  unfold okD at h
  rw [show (d.2.1 - 1).toNat = d.2.1.toNat - 1 by omega]
theorem cs_WD : cs (pc "WD" d) = wdL (wdIx d).toNat := by
  rw [show pc "WD" d = wdName d from pc_s rfl rfl]
  rfl
theorem cs_lit {p : Str} (h : isField p = false) : cs (pc p d) = cs p := by rw [pc_lit h]
end
/-! dates of one year -/
theorem mem_dy {y : Int} {d : Dt} : d ∈ datesIn y y ↔ d.1 = y ∧ (1 ≤ d.2.1 ∧ d.2.1 ≤ 12) ∧ (1 ≤ d.2.2 ∧ d.2.2 ≤ mlen y d.2.1) := by
  obtain ⟨a, m, z⟩ := d
  rw [dates_one]
  unfold yearDays
  rw [List.mem_flatMap]
  constructor
  · rintro ⟨i, hi, hd⟩
    unfold monthDays at hd
    obtain ⟨j, hj, e⟩ := List.mem_map.mp hd
    rw [List.mem_range] at hi hj
    simp only [Prod.mk.injEq] at e
    obtain ⟨rfl, rfl, rfl⟩ := e
    have := mlen_bd y (1 + (i : Int))
    dsimp only
    omega
  · dsimp only
    rintro ⟨rfl, hm, hz⟩
    refine ⟨(m - 1).toNat, List.mem_range.mpr (by omega), ?_⟩
    unfold monthDays
    refine List.mem_map.mpr ⟨(z - 1).toNat, List.mem_range.mpr ?_, ?_⟩
    · rw [show (1 + ((m - 1).toNat : Int)) = m by omega]
      omega
    · simp only [Prod.mk.injEq]
      exact ⟨trivial, by omega, by omega⟩
theorem ok_dy {y : Int} (hy : 0 ≤ y ∧ y ≤ 9999) {d : Dt} (h : d ∈ datesIn y y) : okD d := by
  obtain ⟨h1, h2, h3⟩ := mem_dy.mp h
  have := mlen_bd y d.2.1
  unfold okD
  omega
theorem dg_inj : ∀ a ≤ 99, ∀ b ≤ 99, dg a = dg b → a = b := by decide +kernel
theorem dg_dig (n : Nat) (h : n ≤ 9999) : ∀ c ∈ dg n, 48 ≤ c ∧ c ≤ 57 := by
  unfold dg
  intro c hc
  split at hc
  · simp at hc; omega
  · split at hc
    · simp at hc; omega
    · split at hc
      · simp at hc; omega
      · simp at hc; omega
theorem dt_ext {d e : Dt} (h1 : d.1 = e.1) (h2 : d.2.1 = e.2.1) (h3 : d.2.2 = e.2.2) : d = e := by
  obtain ⟨a, b, c⟩ := d
  obtain ⟨a', b', c'⟩ := e
  simp only at h1 h2 h3
  rw [h1, h2, h3]
end DP
set_option Elab.async false
set_option linter.all false
set_option maxRecDepth 100000
set_option maxHeartbeats 1000000
/-! the calendar: a date and the next -/
namespace DP
open PySem L2 PyProof.Rows
def vd (d : Dt) : Prop := (1 ≤ d.2.1 ∧ d.2.1 ≤ 12) ∧ (1 ≤ d.2.2 ∧ d.2.2 ≤ mlen d.1 d.2.1)
theorem mem_dy' {y : Int} {d : Dt} : d ∈ datesIn y y ↔ d.1 = y ∧ vd d := by
  obtain ⟨a, m, z⟩ := d
  rw [dates_one]
  unfold yearDays vd
  rw [List.mem_flatMap]
  constructor
  · rintro ⟨i, hi, hd⟩
    unfold monthDays at hd
    obtain ⟨j, hj, e⟩ := List.mem_map.mp hd
    rw [List.mem_range] at hi hj
    simp only [Prod.mk.injEq] at e
    obtain ⟨rfl, rfl, rfl⟩ := e
    have := mlen_bd y (1 + (i : Int))
    dsimp only
    omega
  · dsimp only
    rintro ⟨rfl, hm, hz⟩
    refine ⟨(m - 1).toNat, List.mem_range.mpr (by omega), ?_⟩
    unfold monthDays
    refine List.mem_map.mpr ⟨(z - 1).toNat, List.mem_range.mpr ?_, ?_⟩
    · rw [show (1 + ((m - 1).toNat : Int)) = m by omega]
      omega
    · simp only [Prod.mk.injEq]
      exact ⟨trivial, by omega, by omega⟩
theorem mem_dab {a b : Int} {d : Dt} : d ∈ datesIn a b ↔ (a ≤ d.1 ∧ d.1 ≤ b) ∧ vd d := by
  unfold datesIn
  rw [List.mem_flatMap]
  constructor
  · rintro ⟨i, hi, hd⟩
    rw [List.mem_range] at hi
    rw [← dates_one] at hd
    obtain ⟨h1, h2⟩ := mem_dy'.mp hd
    exact ⟨by omega, h2⟩
  · rintro ⟨h1, h2⟩
    refine ⟨(d.1 - a).toNat, List.mem_range.mpr (by omega), ?_⟩
    rw [← dates_one]
    exact mem_dy'.mpr ⟨by omega, h2⟩
def nxt (d : Dt) : Dt := if d.2.2 < mlen d.1 d.2.1 then (d.1, d.2.1, d.2.2 + 1) else if d.2.1 < 12 then (d.1, d.2.1 + 1, 1) else (d.1 + 1, 1, 1)
theorem nxt_gt (d : Dt) : dlt d (nxt d) := by
  unfold nxt dlt
  split
  · dsimp only; omega
  · split
    · dsimp only; omega
    · dsimp only; omega
theorem nxt_vd {d : Dt} (h : vd d) : vd (nxt d) := by
  unfold vd at h
  unfold nxt vd
  have h1 := mlen_bd d.1 (d.2.1 + 1)
  have h2 := mlen_bd (d.1 + 1) 1
  split
  · dsimp only; omega
  · split
    · dsimp only; omega
    · dsimp only; omega
theorem nxt_least {d e : Dt} (hd : vd d) (he : vd e) (h : dlt d e) : e = nxt d ∨ dlt (nxt d) e := by
  obtain ⟨y, m, z⟩ := d
  obtain ⟨y', m', z'⟩ := e
  unfold vd at hd he
  unfold dlt at h
  unfold nxt dlt
  dsimp only at hd he h ⊢
  have hb := mlen_bd y m
  by_cases c1 : z < mlen y m
  · rw [if_pos c1]
    simp only [Prod.mk.injEq]
    omega
  · rw [if_neg c1]
    have c0 : ¬ (y = y' ∧ m = m') := by
      rintro ⟨rfl, rfl⟩
      omega
    by_cases c2 : m < 12
    · rw [if_pos c2]
      simp only [Prod.mk.injEq]
      omega
    · rw [if_neg c2]
      simp only [Prod.mk.injEq]
      omega
theorem pw_lt {l : List Dt} (h : l.Pairwise dlt) {i j : Nat} {a b : Dt} (ha : l[i]? = some a) (hb : l[j]? = some b) (hij : i < j) : dlt a b := by
  obtain ⟨h1, rfl⟩ := List.getElem?_eq_some_iff.mp ha
  obtain ⟨h2, rfl⟩ := List.getElem?_eq_some_iff.mp hb
  exact List.pairwise_iff_getElem.mp h i j h1 h2 hij
theorem next_at {a b : Int} {i : Nat} {d e : Dt} (h1 : (datesIn a b)[i]? = some d) (h2 : (datesIn a b)[i + 1]? = some e) : e = nxt d := by
  have hs := dates_sorted a b
  have hd := mem_dab.mp (List.mem_of_getElem? h1)
  have he := mem_dab.mp (List.mem_of_getElem? h2)
  have hlt := pw_lt hs h1 h2 (Nat.lt_succ_self i)
  rcases nxt_least hd.2 he.2 hlt with h | h
  · exact h
  · exfalso
    have hg := nxt_gt d
    have hy : a ≤ (nxt d).1 ∧ (nxt d).1 ≤ b := by unfold dlt at hg h; omega
    obtain ⟨j, hj⟩ := List.getElem?_of_mem (mem_dab.mpr ⟨hy, nxt_vd hd.2⟩)
    rcases Nat.lt_trichotomy j (i + 1) with c | c | c
    · rcases Nat.lt_or_ge j i with c2 | c2
      · exact dlt_asymm hg (pw_lt hs hj h1 c2)
      · have : j = i := by omega
        subst this
        rw [h1] at hj
        have e0 : d = nxt d := Option.some.inj hj
        rw [← e0] at hg
        exact dlt_irrefl _ hg
    · subst c
      rw [h2] at hj
      have e0 : e = nxt d := Option.some.inj hj
      rw [← e0] at h
      exact dlt_irrefl _ h
    · exact dlt_asymm h (pw_lt hs h2 hj c)
theorem first_at {l : List Dt} (hs : l.Pairwise dlt) {x : Dt} (hx : x ∈ l) (hn : ∀ e ∈ l, ¬ dlt e x) : l[0]? = some x := by
  obtain ⟨j, hj⟩ := List.getElem?_of_mem hx
  cases j with
  | zero => exact hj
  | succ j =>
    have hl := (List.getElem?_eq_some_iff.mp hj).1
    have h0 : l[0]? = some (l[0]'(by omega)) := List.getElem?_eq_getElem _
    exact absurd (pw_lt hs h0 hj (by omega)) (hn _ (List.mem_of_getElem? h0))
theorem last_at {l : List Dt} (hs : l.Pairwise dlt) {x : Dt} (hx : x ∈ l) (hn : ∀ e ∈ l, ¬ dlt x e) : l[l.length - 1]? = some x := by
  obtain ⟨j, hj⟩ := List.getElem?_of_mem hx
  have hl := (List.getElem?_eq_some_iff.mp hj).1
  by_cases c : j = l.length - 1
  · rw [← c]; exact hj
  · have h0 : l[l.length - 1]? = some (l[l.length - 1]'(by omega)) := List.getElem?_eq_getElem _
    exact absurd (pw_lt hs hj h0 (by omega)) (hn _ (List.mem_of_getElem? h0))
theorem mlen_12 (y : Int) : mlen y 12 = 31 ∧ mlen y 1 = 31 := by
  unfold mlen
  exact ⟨by rw [if_neg (by decide), if_neg (by decide)], by rw [if_neg (by decide), if_neg (by decide)]⟩
theorem dates_hd {a b : Int} (h : a ≤ b) : (datesIn a b)[0]? = some (a, 1, 1) := by
  have hm := mlen_12 a
  refine first_at (dates_sorted a b) (mem_dab.mpr ⟨⟨Int.le_refl _, h⟩, ?_⟩) fun e he hlt => ?_
  · unfold vd; dsimp only; omega
  · have := mem_dab.mp he
    unfold vd at this
    unfold dlt at hlt
    dsimp only at hlt
    omega
theorem dates_tl {a b : Int} (h : a ≤ b) : (datesIn a b)[(datesIn a b).length - 1]? = some (b, 12, 31) := by
  have hm := mlen_12 b
  refine last_at (dates_sorted a b) (mem_dab.mpr ⟨⟨h, Int.le_refl _⟩, ?_⟩) fun e he hlt => ?_
  · unfold vd; dsimp only; omega
  · have h1 := mem_dab.mp he
    unfold vd at h1
    unfold dlt at hlt
    dsimp only at hlt
    have := mlen_bd e.1 e.2.1
    omega
/-! lengths of years -/
def ylen (y : Int) : Int := if isLong y = true then 366 else 365
def jan (y : Int) : Int := 365 * (y - 1) + (y - 1) / 4 - (y - 1) / 100 + (y - 1) / 400
theorem jan_succ (y : Int) : jan (y + 1) = jan y + ylen y := by
  unfold jan ylen isLong
  by_cases h4 : y % 4 = 0
  · by_cases h100 : y % 100 = 0
    · by_cases h400 : y % 400 = 0
      · simp [h4, h100, h400]; omega
      · simp [h4, h100, h400]; omega
    · have : ¬ y % 400 = 0 := by omega
      simp [h4, h100, this]; omega
  · have h1 : ¬ y % 100 = 0 := by omega
    have h2 : ¬ y % 400 = 0 := by omega
    simp [h4, h1, h2]; omega
theorem wdIx_jan (d : Dt) : wdIx d = (jan d.1 + piy d - 1) % 7 := rfl
theorem mlens (y : Int) : (List.range 12).map (fun (i : Nat) => mlen y (1 + (i : Int))) = [31, if isLong y = true then 29 else 28, 31, 30, 31, 30, 31, 31, 30, 31, 30, 31] := rfl
theorem piy_m {y m z : Int} (h : 1 ≤ m) : piy (y, m + 1, z) = piy (y, m, mlen y m) + z := by
  unfold piy
  dsimp only
  rw [show (m + 1 - 1).toNat = (m - 1).toNat + 1 by omega, List.range_succ, List.map_append, List.sum_append]
  simp only [List.map_cons, List.map_nil, List.sum_cons, List.sum_nil]
  rw [show (1 + ((m - 1).toNat : Int)) = m by omega]
  omega
theorem piy_jan (y z : Int) : piy (y, 1, z) = z := by
  unfold piy
  simp
theorem piy_dec (y : Int) : piy (y, 12, 31) = ylen y := by
  have h := mlens y
  rw [List.range_succ, List.map_append] at h
  unfold piy
  dsimp only
  have e : (12 - 1 : Int).toNat = 11 := rfl
  rw [e]
  have h2 : (List.range 11).map (fun (i : Nat) => mlen y (1 + (i : Int))) = [31, if isLong y = true then 29 else 28, 31, 30, 31, 30, 31, 31, 30, 31, 30] := rfl
  rw [h2]
  unfold ylen
  split <;> rfl
theorem piy_nxt {d : Dt} (h : vd d) : piy (nxt d) = if (nxt d).2 = (1, 1) then 1 else piy d + 1 := by
  obtain ⟨y, m, z⟩ := d
  unfold vd at h
  unfold nxt
  dsimp only at h ⊢
  by_cases c1 : z < mlen y m
  · rw [if_pos c1]
    have : ¬ ((m, z + 1) : Int × Int) = (1, 1) := by simp only [Prod.mk.injEq]; omega
    rw [if_neg this]
    unfold piy
    dsimp only
    omega
  · rw [if_neg c1]
    have hz : z = mlen y m := by omega
    by_cases c2 : m < 12
    · rw [if_pos c2]
      have : ¬ ((m + 1, 1) : Int × Int) = (1, 1) := by simp only [Prod.mk.injEq]; omega
      rw [if_neg this, hz, piy_m h.1.1]
    · rw [if_neg c2, if_pos rfl, piy_jan]
theorem wd_nxt {d : Dt} (h : vd d) : wdIx (nxt d) = (wdIx d + 1) % 7 := by
  have hp := piy_nxt h
  obtain ⟨y, m, z⟩ := d
  unfold vd at h
  unfold nxt at hp ⊢
  dsimp only at h hp ⊢
  by_cases c1 : z < mlen y m
  · rw [if_pos c1] at hp ⊢
    have : ¬ ((m, z + 1) : Int × Int) = (1, 1) := by simp only [Prod.mk.injEq]; omega
    rw [if_neg this] at hp
    rw [wdIx_jan, wdIx_jan, hp]
    dsimp only
    omega
  · rw [if_neg c1] at hp ⊢
    by_cases c2 : m < 12
    · rw [if_pos c2] at hp ⊢
      have : ¬ ((m + 1, 1) : Int × Int) = (1, 1) := by simp only [Prod.mk.injEq]; omega
      rw [if_neg this] at hp
      rw [wdIx_jan, wdIx_jan, hp]
      dsimp only
      omega
    · have hm : m = 12 := by omega
      have hz : z = 31 := by have := (mlen_12 y).1; rw [hm] at h c1; omega
      rw [if_neg c2]
      rw [wdIx_jan, wdIx_jan, piy_jan, hm, hz, piy_dec]
      dsimp only
      rw [jan_succ]
      omega
theorem year_len (y : Int) : ((yearDays y).length : Int) = ylen y := by
  unfold yearDays
  rw [List.length_flatMap]
  have e : (List.range 12).map (fun (i : Nat) => (monthDays y (1 + (i : Int))).length) = ((List.range 12).map fun (i : Nat) => mlen y (1 + (i : Int))).map Int.toNat := by
    rw [List.map_map]
    refine List.map_congr_left fun i _ => ?_
    unfold monthDays
    rw [List.length_map, List.length_range]
    rfl
  rw [e, mlens]
  unfold ylen
  split <;> rfl
theorem dates_len (a b : Int) : ((datesIn a b).length : Int) = ((List.range (b + 1 - a).toNat).map fun (i : Nat) => ylen (a + (i : Int))).sum := by
  unfold datesIn
  rw [List.length_flatMap]
  generalize List.range (b + 1 - a).toNat = l
  induction l with
  | nil => rfl
  | cons i l ih =>
    rw [List.map_cons, List.map_cons, List.sum_cons, List.sum_cons, Int.natCast_add, year_len, ih]
theorem leap_29 {y : Int} (h : 1600 ≤ y ∧ y ≤ 2399) : isDt (y, 2, 29) = decide (ylen y = 366) := by
  unfold isDt isCnt ylen mlen
  dsimp only
  cases isLong y <;> simp <;> omega
end DP
set_option Elab.async false
set_option linter.all false
set_option maxRecDepth 100000
set_option maxHeartbeats 1000000
/-! what is known of one year -/
namespace DP
open PySem L2 PyProof.Rows
/-! ### lists -/
def ltP : List Nat → List Nat → Bool
  | x :: a, y :: b => if x < y then true else if x = y then ltP a b else false
  | _, _ => false
theorem ltP_lt : ∀ {a b : List Nat} (s t : List Nat), ltP a b = true → a ++ s < b ++ t
  | [], _, s, t, h => by simp [ltP] at h
  | x :: a, [], s, t, h => by simp [ltP] at h
  | x :: a, y :: b, s, t, h => by
    unfold ltP at h
    show x :: (a ++ s) < y :: (b ++ t)
    by_cases h1 : x < y
    · exact List.Lex.rel h1
    · rw [if_neg h1] at h
      by_cases h2 : x = y
      · rw [if_pos h2] at h
        subst h2
        exact List.Lex.cons (ltP_lt s t h)
      · rw [if_neg h2] at h; cases h
theorem slt_P {a b : Str} {x y s t : List Nat} (ha : cs a = x ++ s) (hb : cs b = y ++ t) (h : ltP x y = true) : slt a b = true := by
  unfold slt
  rw [show a.cps.toList = x ++ s from ha, show b.cps.toList = y ++ t from hb]
  exact decide_eq_true (ltP_lt s t h)
theorem slt_N {a b : Str} {x y s t : List Nat} (ha : cs a = x ++ s) (hb : cs b = y ++ t) (h : ltP y x = true) : slt a b = false := by
  unfold slt
  rw [show a.cps.toList = x ++ s from ha, show b.cps.toList = y ++ t from hb]
  exact decide_eq_false fun q => List.lt_asymm q (ltP_lt t s h)
theorem filt_one {α : Type} [DecidableEq α] {l : List α} {p : α → Bool} {x : α} (hn : l.Nodup) (hx : x ∈ l) (h : ∀ d ∈ l, p d = decide (d = x)) : l.filter p = [x] := by
  induction l with
  | nil => cases hx
  | cons a l ih =>
    rw [List.nodup_cons] at hn
    rw [List.filter_cons, h a List.mem_cons_self]
    by_cases e : a = x
    · subst e
      rw [if_pos (decide_eq_true rfl)]
      congr 1
      rw [List.filter_eq_nil_iff]
      intro d hd
      rw [h d (List.mem_cons_of_mem _ hd), decide_eq_true_eq]
      exact fun q => hn.1 (q ▸ hd)
    · rw [if_neg (by simp [e])]
      rcases List.mem_cons.mp hx with q | hx
      · exact absurd q.symm e
      · exact ih hn.2 hx fun d hd => h d (List.mem_cons_of_mem _ hd)
theorem find_one {α : Type} {l : List α} {p : α → Bool} {x : α} (hx : x ∈ l) (hp : p x = true) (h : ∀ d ∈ l, p d = true → d = x) : l.find? p = some x := by
  cases e : l.find? p with
  | none => rw [List.find?_eq_none] at e; exact absurd hp (e x hx)
  | some y => rw [h y (List.mem_of_find?_eq_some e) (List.find?_some e)]
theorem not_nodup {α β : Type} {f : α → β} {l : List α} {a b : α} (ha : a ∈ l) (hb : b ∈ l) (hne : a ≠ b) (h : f a = f b) : ¬ (l.map f).Nodup := fun hn => by
  rw [List.nodup_iff_pairwise_ne, List.pairwise_map] at hn
  rcases List.mem_iff_getElem.mp ha with ⟨i, hi, rfl⟩
  rcases List.mem_iff_getElem.mp hb with ⟨j, hj, rfl⟩
  rcases Nat.lt_trichotomy i j with c | c | c
  · exact List.pairwise_iff_getElem.mp hn i j hi hj c h
  · subst c; exact hne rfl
  · exact List.pairwise_iff_getElem.mp hn j i hj hi c h.symm
theorem nodup_on {f : Dt → Str} {l : List Dt} (hl : l.Nodup) (h : ∀ a ∈ l, ∀ b ∈ l, f a = f b → a = b) : (l.map f).Nodup := nodup_inj (g := id) h (by rw [List.map_id]; exact hl)
/-! ### one year -/
section
variable {y : Int}
abbrev Yr (y : Int) : Prop := 1600 ≤ y ∧ y ≤ 2399
theorem dy_nodup (y : Int) : (datesIn y y).Nodup := sorted_nodup (dates_sorted y y)
structure Dy (y : Int) (d : Dt) : Prop where
  y : d.1 = y
  m1 : 1 ≤ d.2.1
  m2 : d.2.1 ≤ 12
  z1 : 1 ≤ d.2.2
  z2 : d.2.2 ≤ 31
  ok : okD d
theorem dy_of (hy : Yr y) {d : Dt} (h : d ∈ datesIn y y) : Dy y d := by
  obtain ⟨h1, h2, h3⟩ := mem_dy.mp h
  have := mlen_bd y d.2.1
  exact ⟨h1, h2.1, h2.2, h3.1, by omega, ok_dy (by omega) h⟩
theorem dy_eq {d e : Dt} (hd : Dy y d) (he : Dy y e) (h1 : d.2.1.toNat = e.2.1.toNat) (h2 : d.2.2.toNat = e.2.2.toNat) : d = e := by
  have := hd.m1; have := he.m1; have := hd.z1; have := he.z1
  exact dt_ext (hd.y.trans he.y.symm) (by omega) (by omega)
/-- a day up to the 28th, or of January -/
theorem mem_28 {m z : Int} (hm : 1 ≤ m ∧ m ≤ 12) (hz : 1 ≤ z ∧ z ≤ 28) : (y, m, z) ∈ datesIn y y := mem_dy.mpr ⟨rfl, hm, hz.1, by have := (mlen_bd y m).1; show z ≤ mlen y m; omega⟩
theorem mem_jan {z : Int} (hz : 1 ≤ z ∧ z ≤ 31) : (y, 1, z) ∈ datesIn y y := mem_dy.mpr ⟨rfl, ⟨by show (1 : Int) ≤ 1; decide, by show (1 : Int) ≤ 12; decide⟩, hz.1, by rw [show mlen y (1 : Int) = 31 from (mlen_12 y).2]; exact hz.2⟩
theorem dy_mk (hy : Yr y) {m z : Int} (h : (y, m, z) ∈ datesIn y y) : Dy y (y, m, z) := dy_of hy h
/-- the year's start -/
theorem dy_jan (y : Int) : ∃ r, datesIn y y = ((List.range' 1 31).map fun (z : Nat) => ((y, 1, (z : Int)) : Dt)) ++ (y, 2, 1) :: r := by
  rw [dates_one]
  unfold yearDays
  refine ⟨(((List.range' 1 ((mlen y 2).toNat - 1)).map fun (i : Nat) => ((y, 2, 1 + (i : Int)) : Dt)) ++ (List.range' 2 10).flatMap fun (i : Nat) => monthDays y (1 + (i : Int))), ?_⟩
  have e1 : List.range 12 = 0 :: 1 :: List.range' 2 10 := rfl
  rw [e1, List.flatMap_cons, List.flatMap_cons]
  have e2 : monthDays y (1 + ((0 : Nat) : Int)) = (List.range' 1 31).map fun (z : Nat) => ((y, 1, (z : Int)) : Dt) := by
    unfold monthDays
    rw [show (1 + ((0 : Nat) : Int)) = 1 from rfl, (mlen_12 y).2]
    rfl
  have e3 : monthDays y (1 + ((1 : Nat) : Int)) = (y, 2, 1) :: (List.range' 1 ((mlen y 2).toNat - 1)).map fun (i : Nat) => ((y, 2, 1 + (i : Int)) : Dt) := by
    unfold monthDays
    rw [show (1 + ((1 : Nat) : Int)) = 2 from rfl]
    have := mlen_bd y 2
    obtain ⟨n, hn⟩ : ∃ n, (mlen y 2).toNat = n + 1 := ⟨(mlen y 2).toNat - 1, by omega⟩
    rw [hn, List.range_eq_range', List.range'_succ, List.map_cons, Nat.add_sub_cancel]
    rfl
  rw [e2, e3, List.cons_append]
theorem dy_head (y : Int) : ∃ r, datesIn y y = (y, 1, 1) :: r := by
  obtain ⟨r, e⟩ := dy_jan y
  exact ⟨_, e⟩
/-! ### unsorted -/
theorem uns_up {f : Dt → Str} {A : Nat → List Nat} {S : List Nat} (hf : ∀ z : Nat, 1 ≤ z → z ≤ 31 → cs (f (y, 1, (z : Int))) = A z ++ S) (r : List Dt) : ∀ (k z : Nat), 1 ≤ z → z + k ≤ 31 → ((List.range k).all fun i => ltP (A (z + i)) (A (z + i + 1))) = true →
    unsR f (((List.range' z (k + 1)).map fun (z : Nat) => ((y, 1, (z : Int)) : Dt)) ++ r) = unsR f ((y, 1, ((z + k : Nat) : Int)) :: r)
  | 0, z, _, _, _ => rfl
  | k + 1, z, h1, h2, h => by
    have hh : ∀ i, i < k + 1 → ltP (A (z + i)) (A (z + i + 1)) = true := fun i hi => List.all_eq_true.mp h i (List.mem_range.mpr hi)
    have ih := uns_up hf r k (z + 1) (by omega) (by omega) (List.all_eq_true.mpr fun i hi => by
      have := hh (i + 1) (by have := List.mem_range.mp hi; omega)
      rw [show z + (i + 1) = z + 1 + i by omega] at this
      exact this)
    rw [List.range'_succ, List.map_cons, List.cons_append]
    rw [List.range'_succ, List.map_cons, List.cons_append] at ih ⊢
    show (if slt (f (y, 1, (z : Int))) (f (y, 1, ((z + 1 : Nat) : Int))) = true then _ else _) = _
    rw [if_pos (slt_P (hf z h1 (by omega)) (hf (z + 1) (by omega) (by omega)) (hh 0 (by omega)))]
    rw [show z + (k + 1) = z + 1 + k by omega]
    exact ih
theorem uns_at9 {f : Dt → Str} {A : Nat → List Nat} {S : List Nat} (hf : ∀ z : Nat, 1 ≤ z → z ≤ 31 → cs (f (y, 1, (z : Int))) = A z ++ S) (h : ((List.range 8).all fun i => ltP (A (1 + i)) (A (1 + i + 1))) = true) (h9 : ltP (A 10) (A 9) = true) : unsOf f (datesIn y y) = some (y, 1, 9) := by
  obtain ⟨r, e⟩ := dy_jan y
  have e2 : (List.range' 1 31).map (fun (z : Nat) => ((y, 1, (z : Int)) : Dt)) = (List.range' 1 9).map (fun (z : Nat) => ((y, 1, (z : Int)) : Dt)) ++ ((y, 1, 10) :: (List.range' 11 21).map fun (z : Nat) => ((y, 1, (z : Int)) : Dt)) := rfl
  rw [unsOf_R, e, e2, List.append_assoc, uns_up hf _ 8 1 (by decide) (by decide) h]
  show (if slt (f (y, 1, 9)) (f (y, 1, 10)) = true then _ else some ((y, 1, 9) : Dt)) = _
  rw [if_neg]
  rw [show slt (f (y, 1, 9)) (f (y, 1, 10)) = false from slt_N (hf 9 (by decide) (by decide)) (hf 10 (by decide) (by decide)) h9]
  decide
theorem uns_at31 {f : Dt → Str} {A : Nat → List Nat} {S b t : List Nat} (hf : ∀ z : Nat, 1 ≤ z → z ≤ 31 → cs (f (y, 1, (z : Int))) = A z ++ S) (h : ((List.range 30).all fun i => ltP (A (1 + i)) (A (1 + i + 1))) = true) (hb : cs (f (y, 2, 1)) = b ++ t) (h9 : ltP b (A 31) = true) : unsOf f (datesIn y y) = some (y, 1, 31) := by
  obtain ⟨r, e⟩ := dy_jan y
  rw [unsOf_R, e, uns_up hf _ 30 1 (by decide) (by decide) h]
  show (if slt (f (y, 1, 31)) (f (y, 2, 1)) = true then _ else some ((y, 1, 31) : Dt)) = _
  rw [if_neg]
  rw [show slt (f (y, 1, 31)) (f (y, 2, 1)) = false from slt_N (hf 31 (by decide) (by decide)) hb h9]
  decide
theorem uns_none {f : Dt → Str} {ds : List Dt} (h : ∀ (i : Nat) d e, ds[i]? = some d → ds[i + 1]? = some e → slt (f d) (f e) = true) : unsOf f ds = none := by
  unfold unsOf
  rw [List.findSome?_eq_none_iff]
  intro i hi
  unfold unsAt
  cases h1 : ds[i]? with
  | none => rfl
  | some d =>
    cases h2 : ds[i + 1]? with
    | none => rfl
    | some e => simp [h i d e h1 h2]
/-- the next date of the same year -/
theorem next_dy (hy : Yr y) {i : Nat} {d e : Dt} (h1 : (datesIn y y)[i]? = some d) (h2 : (datesIn y y)[i + 1]? = some e) : (e.2.1 = d.2.1 ∧ e.2.2 = d.2.2 + 1) ∨ (e.2.1 = d.2.1 + 1 ∧ e.2.2 = 1) := by
  have hn := next_at h1 h2
  have hd := dy_of hy (List.mem_of_getElem? h1)
  have he := dy_of hy (List.mem_of_getElem? h2)
  have hey := he.y
  rw [hn] at hey ⊢
  unfold nxt at hey ⊢
  split
  · exact .inl ⟨rfl, rfl⟩
  · split
    · exact .inr ⟨rfl, rfl⟩
    · rename_i c1 c2
      rw [if_neg c1, if_neg c2] at hey
      have := hd.y
      dsimp only at hey
      omega
theorem piy_next (hy : Yr y) {i : Nat} {d e : Dt} (h1 : (datesIn y y)[i]? = some d) (h2 : (datesIn y y)[i + 1]? = some e) : piy e = piy d + 1 := by
  have hn := next_at h1 h2
  have hm := mem_dab.mp (List.mem_of_getElem? h1)
  have hp := piy_nxt hm.2
  rw [← hn] at hp
  have hd := dy_of hy (List.mem_of_getElem? h1)
  rcases next_dy hy h1 h2 with ⟨a, b⟩ | ⟨a, b⟩
  · rw [if_neg (fun q => by have := congrArg Prod.fst q; have := congrArg Prod.snd q; dsimp only at *; have := hd.z1; omega)] at hp
    exact hp
  · rw [if_neg (fun q => by have := congrArg Prod.fst q; dsimp only at *; have := hd.m1; omega)] at hp
    exact hp
theorem piy_ix (hy : Yr y) : ∀ {i : Nat} {d : Dt}, (datesIn y y)[i]? = some d → piy d = (i : Int) + 1
  | 0, d, h => by
    obtain ⟨r, e⟩ := dy_head y
    rw [e] at h
    cases h
    rw [piy_jan]
    rfl
  | i + 1, d, h => by
    have hl := (List.getElem?_eq_some_iff.mp h).1
    have h0 : (datesIn y y)[i]? = some ((datesIn y y)[i]'(by omega)) := List.getElem?_eq_getElem _
    rw [piy_next hy h0 h, piy_ix hy h0]
    omega
theorem dy_len (y : Int) : ((datesIn y y).length : Int) = ylen y := by rw [dates_one]; exact year_len y
theorem piy_le (hy : Yr y) {d : Dt} (h : d ∈ datesIn y y) : 1 ≤ piy d ∧ piy d ≤ ylen y := by
  obtain ⟨i, hi⟩ := List.getElem?_of_mem h
  have := (List.getElem?_eq_some_iff.mp hi).1
  have := dy_len y
  rw [piy_ix hy hi]
  omega
theorem piy_inj (hy : Yr y) {d e : Dt} (hd : d ∈ datesIn y y) (he : e ∈ datesIn y y) (h : piy d = piy e) : d = e := by
  obtain ⟨i, hi⟩ := List.getElem?_of_mem hd
  obtain ⟨j, hj⟩ := List.getElem?_of_mem he
  rw [piy_ix hy hi, piy_ix hy hj] at h
  have : i = j := by omega
  subst this
  rw [hi] at hj
  exact Option.some.inj hj
theorem ylen_bd (y : Int) : ylen y = 365 ∨ ylen y = 366 := by unfold ylen; split; exact .inr rfl; exact .inl rfl
end
end DP
set_option Elab.async false
set_option linter.all false
set_option maxRecDepth 100000
set_option maxHeartbeats 1000000
namespace DP
open PySem L2 PyProof.Rows
/-! ### days and months in both orders, with marks -/
/-- a mark: one sign, no figure -/
def isMk (mk : Str) (c : Nat) : Prop := cs mk = [c] ∧ isField mk = false ∧ (c < 48 ∨ 57 < c)
def tx1 (c a b : Nat) (Y : List Nat) : List Nat := dg a ++ c :: (dg b ++ c :: Y)
abbrev p1 (mk : Str) : List Str := ["D", mk, "M", mk, "YYYY"]
abbrev p2 (mk : Str) : List Str := ["M", mk, "D", mk, "YYYY"]
section
variable {y : Int} {mk : Str} {c : Nat}
theorem cs_p1 (hy : Yr y) (hm : isMk mk c) {d : Dt} (h : Dy y d) : cs (wr (p1 mk) d) = tx1 c d.2.2.toNat d.2.1.toNat (dg4 y.toNat) := by
  rw [wr_cs]
  show cs (pc "D" d) ++ (cs (pc mk d) ++ (cs (pc "M" d) ++ (cs (pc mk d) ++ (cs (pc "YYYY" d) ++ [])))) = _
  rw [cs_D h.ok, cs_M h.ok, cs_lit hm.2.1, hm.1, cs_YYYY h.ok (by rw [h.y]; omega), h.y, List.append_nil]
  rfl
theorem cs_p2 (hy : Yr y) (hm : isMk mk c) {d : Dt} (h : Dy y d) : cs (wr (p2 mk) d) = tx1 c d.2.1.toNat d.2.2.toNat (dg4 y.toNat) := by
  rw [wr_cs]
  show cs (pc "M" d) ++ (cs (pc mk d) ++ (cs (pc "D" d) ++ (cs (pc mk d) ++ (cs (pc "YYYY" d) ++ [])))) = _
  rw [cs_D h.ok, cs_M h.ok, cs_lit hm.2.1, hm.1, cs_YYYY h.ok (by rw [h.y]; omega), h.y, List.append_nil]
  rfl
theorem nodig {n : Nat} (hn : n ≤ 9999) (hc : c < 48 ∨ 57 < c) : c ∉ dg n := fun h => by have := dg_dig n hn c h; omega
theorem tx1_inj (hc : c < 48 ∨ 57 < c) {a b a' b' : Nat} {Y Y' : List Nat} (h : tx1 c a b Y = tx1 c a' b' Y') (ha : a ≤ 99) (hb : b ≤ 99) (ha' : a' ≤ 99) (hb' : b' ≤ 99) : a = a' ∧ b = b' := by
  unfold tx1 at h
  obtain ⟨h1, h2⟩ := cut_inj (nodig (by omega) hc) (nodig (by omega) hc) h
  obtain ⟨h3, _⟩ := cut_inj (nodig (by omega) hc) (nodig (by omega) hc) h2
  exact ⟨dg_inj a ha a' ha' h1, dg_inj b hb b' hb' h3⟩
theorem Dy.bd {d : Dt} (h : Dy y d) : d.2.1.toNat ≤ 12 ∧ d.2.2.toNat ≤ 31 ∧ 1 ≤ d.2.1.toNat ∧ 1 ≤ d.2.2.toNat := by
  have := h.m1; have := h.m2; have := h.z1; have := h.z2
  omega
theorem p1_inj (hy : Yr y) (hm : isMk mk c) {d e : Dt} (hd : Dy y d) (he : Dy y e) (h : wr (p1 mk) d = wr (p1 mk) e) : d = e := by
  have h := congrArg cs h
  rw [cs_p1 hy hm hd, cs_p1 hy hm he] at h
  have := hd.bd; have := he.bd
  obtain ⟨h1, h2⟩ := tx1_inj hm.2.2 h (by omega) (by omega) (by omega) (by omega)
  exact dy_eq hd he h2 h1
theorem p2_inj (hy : Yr y) (hm : isMk mk c) {d e : Dt} (hd : Dy y d) (he : Dy y e) (h : wr (p2 mk) d = wr (p2 mk) e) : d = e := by
  have h := congrArg cs h
  rw [cs_p2 hy hm hd, cs_p2 hy hm he] at h
  have := hd.bd; have := he.bd
  obtain ⟨h1, h2⟩ := tx1_inj hm.2.2 h (by omega) (by omega) (by omega) (by omega)
  exact dy_eq hd he h1 h2
/-- one order read as the other -/
theorem p12_iff (hy : Yr y) (hm : isMk mk c) {d e : Dt} (hd : Dy y d) (he : Dy y e) : wr (p2 mk) e = wr (p1 mk) d ↔ e.2.1 = d.2.2 ∧ e.2.2 = d.2.1 := by
  have h1 := hd.bd; have h2 := he.bd
  have := hd.m1; have := hd.z1; have := he.m1; have := he.z1
  constructor
  · intro h
    have h := congrArg cs h
    rw [cs_p2 hy hm he, cs_p1 hy hm hd] at h
    obtain ⟨h3, h4⟩ := tx1_inj hm.2.2 h (by omega) (by omega) (by omega) (by omega)
    omega
  · rintro ⟨h3, h4⟩
    apply cs_inj
    rw [cs_p2 hy hm he, cs_p1 hy hm hd, h3, h4]
theorem nodup_p1 (hy : Yr y) (hm : isMk mk c) : ((datesIn y y).map (wr (p1 mk))).Nodup := nodup_on (dy_nodup y) fun a ha b hb h => p1_inj hy hm (dy_of hy ha) (dy_of hy hb) h
theorem nodup_p2 (hy : Yr y) (hm : isMk mk c) : ((datesIn y y).map (wr (p2 mk))).Nodup := nodup_on (dy_nodup y) fun a ha b hb h => p2_inj hy hm (dy_of hy ha) (dy_of hy hb) h
theorem conf_none {f g : Dt → Str} {ds : List Dt} {d : Dt} (h : ∀ e ∈ ds, g e = f d → e = d) : (conf1 f g ds d).head?.map (fun e => (d, e)) = none := by
  have : conf1 f g ds d = [] := by
    unfold conf1
    rw [List.filter_eq_nil_iff]
    intro e he
    obtain ⟨h1, h2⟩ := List.mem_filter.mp he
    rw [h e h1 (of_decide_eq_true h2)]
    simp
  rw [this]
  rfl
theorem conf_some {f g : Dt → Str} {ds : List Dt} {d e : Dt} (he : e ∈ ds) (hg : g e = f d) (hne : e ≠ d) (h : ∀ z ∈ ds, g z = f d → z = e ∨ z = d) : (conf1 f g ds d).head?.map (fun e => (d, e)) = some (d, e) := by
  have hm : e ∈ conf1 f g ds d := List.mem_filter.mpr ⟨List.mem_filter.mpr ⟨he, decide_eq_true hg⟩, by simp [hne]⟩
  cases hc : conf1 f g ds d with
  | nil => rw [hc] at hm; cases hm
  | cons z r =>
    have hz : z ∈ conf1 f g ds d := by rw [hc]; exact List.mem_cons_self
    obtain ⟨h1, h2⟩ := List.mem_filter.mp hz
    obtain ⟨h3, h4⟩ := List.mem_filter.mp h1
    rcases h z h3 (of_decide_eq_true h4) with q | q
    · rw [q]; rfl
    · rw [q] at h2; simp at h2
theorem conf_two {f g : Dt → Str} (hy : Yr y) (h : ∀ d ∈ datesIn y y, ∀ e ∈ datesIn y y, g e = f d ↔ e.2.1 = d.2.2 ∧ e.2.2 = d.2.1) : confOf f g (datesIn y y) = some ((y, 1, 2), (y, 2, 1)) := by
  have m11 : ((y, 1, 1) : Dt) ∈ datesIn y y := mem_28 (by decide) (by decide)
  have m12 : ((y, 1, 2) : Dt) ∈ datesIn y y := mem_28 (by decide) (by decide)
  have m21 : ((y, 2, 1) : Dt) ∈ datesIn y y := mem_28 (by decide) (by decide)
  have e1 := conf_none (f := f) (g := g) (ds := datesIn y y) (d := (y, 1, 1)) fun e he q => by
    have hq := (h _ m11 e he).mp q
    exact dt_ext (dy_of hy he).y hq.1 hq.2
  have e2 := conf_some (f := f) (g := g) m21 ((h _ m12 _ m21).mpr ⟨rfl, rfl⟩) (fun q => absurd (congrArg (fun z : Dt => z.2.1) q) (by simp)) fun z hz q => by
    have hq := (h _ m12 z hz).mp q
    exact .inl (dt_ext (dy_of hy hz).y hq.1 hq.2)
  obtain ⟨r, e⟩ := dy_jan y
  have e3 : datesIn y y = (y, 1, 1) :: (y, 1, 2) :: (((List.range' 3 29).map fun (z : Nat) => ((y, 1, (z : Int)) : Dt)) ++ (y, 2, 1) :: r) := e
  unfold confOf
  conv => lhs; arg 2; rw [e3]
  rw [List.findSome?_cons, e1, List.findSome?_cons, e2]
theorem conf_12 (hy : Yr y) (hm : isMk mk c) : confOf (wr (p1 mk)) (wr (p2 mk)) (datesIn y y) = some ((y, 1, 2), (y, 2, 1)) := conf_two hy fun d hd e he => p12_iff hy hm (dy_of hy hd) (dy_of hy he)
theorem conf_21 (hy : Yr y) (hm : isMk mk c) : confOf (wr (p2 mk)) (wr (p1 mk)) (datesIn y y) = some ((y, 1, 2), (y, 2, 1)) := conf_two hy fun d hd e he => by
  constructor
  · intro q
    have := (p12_iff hy hm (dy_of hy he) (dy_of hy hd)).mp q.symm
    exact ⟨this.2.symm, this.1.symm⟩
  · intro q
    exact ((p12_iff hy hm (dy_of hy he) (dy_of hy hd)).mpr ⟨q.2.symm, q.1.symm⟩).symm
theorem conf_11 (hy : Yr y) (hm : isMk mk c) : confOf (wr (p1 mk)) (wr (p1 mk)) (datesIn y y) = none := by
  unfold confOf
  rw [List.findSome?_eq_none_iff]
  intro d hd
  exact conf_none fun e he q => p1_inj hy hm (dy_of hy he) (dy_of hy hd) q
/-- the first date that tells them apart -/
theorem tel_12 (hy : Yr y) (hm : isMk mk c) : telOf [p1 mk, p2 mk] (datesIn y y) = some (y, 1, 13) := by
  have hi := fun {d e : Dt} (hd : d ∈ datesIn y y) (he : e ∈ datesIn y y) => p12_iff hy hm (dy_of hy hd) (dy_of hy he)
  have key : ∀ z : Nat, 1 ≤ z → z ≤ 31 → telD [p1 mk, p2 mk] (datesIn y y) (y, 1, (z : Int)) = decide (12 < z) := fun z h1 h2 => by
    have mz : ((y, 1, (z : Int)) : Dt) ∈ datesIn y y := mem_jan (by omega)
    rw [Bool.eq_iff_iff, tel_iff, decide_eq_true_eq]
    constructor
    · intro h
      refine Nat.lt_of_not_le fun q => ?_
      have mz2 : ((y, (z : Int), 1) : Dt) ∈ datesIn y y := mem_28 (by omega) (by decide)
      have := h 0 (by simp) 1 (by simp) (by decide)
      have h3 : has (p2 mk) (datesIn y y) (wr (p1 mk) (y, 1, (z : Int))) = true := List.any_eq_true.mpr ⟨_, mz2, decide_eq_true ((hi mz mz2).mpr ⟨rfl, rfl⟩)⟩
      rw [show has ([p1 mk, p2 mk].getD 1 []) (datesIn y y) (wr ([p1 mk, p2 mk].getD 0 []) (y, 1, (z : Int))) = _ from h3] at this
      cases this
    · intro q i hi' j hj hne
      have h01 : has (p2 mk) (datesIn y y) (wr (p1 mk) (y, 1, (z : Int))) = false := by
        rw [Bool.eq_false_iff]
        intro h3
        obtain ⟨e, he, hq⟩ := List.any_eq_true.mp h3
        have h4 := (hi mz he).mp (of_decide_eq_true hq)
        have := (dy_of hy he).m2
        dsimp only at h4
        omega
      have h10 : has (p1 mk) (datesIn y y) (wr (p2 mk) (y, 1, (z : Int))) = false := by
        rw [Bool.eq_false_iff]
        intro h3
        obtain ⟨e, he, hq⟩ := List.any_eq_true.mp h3
        have h4 := (hi he mz).mp (of_decide_eq_true hq).symm
        have := (dy_of hy he).m2
        dsimp only at h4
        omega
      match i, j, hi', hj, hne with
      | 0, 1, _, _, _ => exact h01
      | 1, 0, _, _, _ => exact h10
      | 0, 0, _, _, h => exact absurd rfl h
      | 1, 1, _, _, h => exact absurd rfl h
      | i + 2, _, h, _, _ => exact absurd h (by simp)
      | 0, j + 2, _, h, _ => exact absurd h (by simp)
      | 1, j + 2, _, h, _ => exact absurd h (by simp)
  obtain ⟨r, e⟩ := dy_jan y
  unfold telOf
  have e3 : datesIn y y = ((List.range' 1 12).map fun (z : Nat) => ((y, 1, (z : Int)) : Dt)) ++ ((y, 1, 13) :: (((List.range' 14 18).map fun (z : Nat) => ((y, 1, (z : Int)) : Dt)) ++ (y, 2, 1) :: r)) := e
  conv => lhs; arg 2; rw [e3]
  rw [List.find?_append]
  have e4 : ((List.range' 1 12).map fun (z : Nat) => ((y, 1, (z : Int)) : Dt)).find? (telD [p1 mk, p2 mk] (datesIn y y)) = none := by
    rw [List.find?_eq_none]
    intro d hd
    obtain ⟨z, hz, rfl⟩ := List.mem_map.mp hd
    rw [List.mem_range'_1] at hz
    rw [key z (by omega) (by omega), decide_eq_true_eq]
    omega
  have e5 := key 13 (by decide) (by decide)
  rw [e4, List.find?_cons, show telD [p1 mk, p2 mk] (datesIn y y) (y, 1, 13) = true from e5]
  rfl
theorem uns_p1 (hy : Yr y) (hm : isMk mk c) (hc : c ∈ [47, 45, 46, 32, 58]) : unsOf (wr (p1 mk)) (datesIn y y) = some (y, 1, 9) := by
  refine uns_at9 (A := fun z => dg z ++ [c]) (S := 49 :: c :: dg4 y.toNat) (fun z h1 h2 => ?_) ?_ ?_
  · rw [cs_p1 hy hm (dy_of hy (mem_jan (by omega)))]
    show dg ((z : Int)).toNat ++ c :: (dg 1 ++ c :: dg4 y.toNat) = _
    rw [Int.toNat_natCast, List.append_assoc]
    rfl
  · have : ∀ c ∈ [47, 45, 46, 32, 58], ((List.range 8).all fun i => ltP (dg (1 + i) ++ [c]) (dg (1 + i + 1) ++ [c])) = true := by decide
    exact this c hc
  · have : ∀ c ∈ [47, 45, 46, 32, 58], ltP (dg 10 ++ [c]) (dg 9 ++ [c]) = true := by decide
    exact this c hc
theorem uns_p2 (hy : Yr y) (hm : isMk mk c) (hc : c ∈ [47, 45, 46, 32, 58]) : unsOf (wr (p2 mk)) (datesIn y y) = some (y, 1, 9) := by
  refine uns_at9 (A := fun z => 49 :: c :: (dg z ++ [c])) (S := dg4 y.toNat) (fun z h1 h2 => ?_) ?_ ?_
  · rw [cs_p2 hy hm (dy_of hy (mem_jan (by omega)))]
    show dg 1 ++ c :: (dg ((z : Int)).toNat ++ c :: dg4 y.toNat) = _
    rw [Int.toNat_natCast, List.cons_append, List.cons_append, List.append_assoc]
    rfl
  · have : ∀ c ∈ [47, 45, 46, 32, 58], ((List.range 8).all fun i => ltP (49 :: c :: (dg (1 + i) ++ [c])) (49 :: c :: (dg (1 + i + 1) ++ [c]))) = true := by decide
    exact this c hc
  · have : ∀ c ∈ [47, 45, 46, 32, 58], ltP (49 :: c :: (dg 10 ++ [c])) (49 :: c :: (dg 9 ++ [c])) = true := by decide
    exact this c hc
theorem dg_len2 {n : Nat} (h : n ≤ 99) : 1 ≤ (dg n).length ∧ (dg n).length ≤ 2 := by
  rw [dg_len]
  split
  · exact ⟨Nat.le_refl _, by decide⟩
  · rw [if_pos (by omega)]; decide
theorem len_p1 (hy : Yr y) (hm : isMk mk c) {d : Dt} (h : Dy y d) : (wr (p1 mk) d).length = (dg d.2.2.toNat).length + (dg d.2.1.toNat).length + 6 := by
  rw [← cs_len, cs_p1 hy hm h]
  unfold tx1
  rw [List.length_append, List.length_cons, List.length_append, List.length_cons]
  show _ + (_ + (4 + 1) + 1) = _
  omega
theorem wid_p1 (hy : Yr y) (hm : isMk mk c) : Least 8 (lens (wr (p1 mk)) (datesIn y y)) ∧ Most 10 (lens (wr (p1 mk)) (datesIn y y)) := by
  have hl : ∀ x ∈ lens (wr (p1 mk)) (datesIn y y), 8 ≤ x ∧ x ≤ 10 := fun x hx => by
    obtain ⟨d, hd, rfl⟩ := List.mem_map.mp hx
    have h := dy_of hy hd
    have hb := h.bd
    have h1 := dg_len2 (n := d.2.2.toNat) (by omega)
    have h2 := dg_len2 (n := d.2.1.toNat) (by omega)
    rw [len_p1 hy hm h]
    omega
  have m1 : ((y, 1, 1) : Dt) ∈ datesIn y y := mem_28 (by decide) (by decide)
  have m2 : ((y, 10, 10) : Dt) ∈ datesIn y y := mem_28 (by decide) (by decide)
  refine ⟨⟨List.mem_map.mpr ⟨_, m1, ?_⟩, fun x hx => (hl x hx).1⟩, ⟨List.mem_map.mpr ⟨_, m2, ?_⟩, fun x hx => (hl x hx).2⟩⟩
  · show (((wr (p1 mk) (y, 1, 1)).length : Nat) : Int) = 8
    rw [len_p1 hy hm (dy_of hy m1)]
    rfl
  · show (((wr (p1 mk) (y, 10, 10)).length : Nat) : Int) = 10
    rw [len_p1 hy hm (dy_of hy m2)]
    rfl
end
end DP
set_option Elab.async false
set_option linter.all false
set_option maxRecDepth 100000
set_option maxHeartbeats 1000000
namespace DP
open PySem L2 PyProof.Rows
section
variable {y : Int}
/-! ### without marks -/
theorem cs_two {p q : Str} {d : Dt} {a b : List Nat} (h1 : cs (pc p d) = a) (h2 : cs (pc q d) = b) : cs (wr [p, q] d) = a ++ b := by
  rw [wr_cs]
  show cs (pc p d) ++ (cs (pc q d) ++ []) = _
  rw [h1, h2, List.append_nil]
theorem cs_three {p q r : Str} {d : Dt} {a b c : List Nat} (h1 : cs (pc p d) = a) (h2 : cs (pc q d) = b) (h3 : cs (pc r d) = c) : cs (wr [p, q, r] d) = a ++ (b ++ c) := by
  rw [wr_cs]
  show cs (pc p d) ++ (cs (pc q d) ++ (cs (pc r d) ++ [])) = _
  rw [h1, h2, h3, List.append_nil]
theorem cs_one {p : Str} {d : Dt} {a : List Nat} (h1 : cs (pc p d) = a) : cs (wr [p] d) = a := by
  rw [wr_cs]
  show cs (pc p d) ++ [] = _
  rw [h1, List.append_nil]
def vL (l : List Nat) : Nat := l.foldl (fun a c => a * 10 + (c - 48)) 0
def decDM (l : List Nat) : Nat × Nat := if l.getLastD 0 = 48 then (vL (l.take (l.length - 2)), 10) else (vL l.dropLast, l.getLastD 0 - 48)
def decMD (l : List Nat) : Nat × Nat := match l with
  | 49 :: 48 :: x :: r => (vL (x :: r), 10)
  | x :: r => (vL r, x - 48)
  | [] => (0, 0)
theorem decDM_ok : ∀ z < 32, ∀ m < 11, 1 ≤ z → 1 ≤ m → decDM (dg z ++ dg m) = (z, m) := by decide +kernel
theorem decMD_ok : ∀ z < 32, ∀ m < 11, 1 ≤ z → 1 ≤ m → decMD (dg m ++ dg z) = (z, m) := by decide +kernel
theorem cs_DM {d : Dt} (h : Dy y d) : cs (wr ["D", "M"] d) = dg d.2.2.toNat ++ dg d.2.1.toNat := cs_two (cs_D h.ok) (cs_M h.ok)
theorem cs_MD {d : Dt} (h : Dy y d) : cs (wr ["M", "D"] d) = dg d.2.1.toNat ++ dg d.2.2.toNat := cs_two (cs_M h.ok) (cs_D h.ok)
/-- what stands before the first of November -/
theorem dy_nov (y : Int) : ∃ a b, datesIn y y = a ++ (y, 11, 1) :: b ∧ ∀ d ∈ a, d.2.1 ≤ 10 := by
  have m : ((y, 11, 1) : Dt) ∈ datesIn y y := mem_28 (by decide) (by decide)
  obtain ⟨a, b, e⟩ := List.append_of_mem m
  refine ⟨a, b, e, fun d hd => ?_⟩
  have hs := dates_sorted y y
  rw [e, List.pairwise_append] at hs
  have h1 := hs.2.2 d hd _ List.mem_cons_self
  have h2 := mem_dy.mp (show d ∈ datesIn y y by rw [e]; exact List.mem_append_left _ hd)
  unfold dlt at h1
  dsimp only at h1
  omega
theorem dup_nov {f : Dt → Str} (hy : Yr y) (hinj : ∀ d e, Dy y d → Dy y e → d.2.1 ≤ 10 → e.2.1 ≤ 10 → f d = f e → d = e) (h11 : f (y, 1, 11) = f (y, 11, 1)) : IsDup f (datesIn y y) (y, 1, 11) (y, 11, 1) := by
  obtain ⟨a, b, e, ha⟩ := dy_nov y
  have hm : ∀ d ∈ a, d ∈ datesIn y y := fun d hd => by rw [e]; exact List.mem_append_left _ hd
  have hn : a.Nodup := by
    have := dy_nodup y
    rw [e, List.nodup_append] at this
    exact this.1
  have m111 : ((y, 1, 11) : Dt) ∈ a := by
    have m : ((y, 1, 11) : Dt) ∈ datesIn y y := mem_28 (by decide) (by decide)
    rw [e, List.mem_append] at m
    rcases m with m | m
    · exact m
    · exfalso
      have hs := dates_sorted y y
      rw [e, List.pairwise_append] at hs
      rcases List.mem_cons.mp m with q | m
      · exact absurd (congrArg (fun z : Dt => z.2.1) q) (by simp)
      · have := (List.pairwise_cons.mp hs.2.1).1 _ m
        unfold dlt at this
        dsimp only at this
        omega
  refine ⟨a, b, e, nodup_on hn fun x hx z hz q => hinj x z (dy_of hy (hm x hx)) (dy_of hy (hm z hz)) (ha x hx) (ha z hz) q, find_one m111 (decide_eq_true h11) fun d hd q => ?_⟩
  have q := of_decide_eq_true q
  exact hinj d _ (dy_of hy (hm d hd)) (dy_of hy (hm _ m111)) (ha d hd) (by show (1 : Int) ≤ 10; decide) (q.trans h11.symm)
theorem dup_DM (hy : Yr y) : IsDup (wr ["D", "M"]) (datesIn y y) (y, 1, 11) (y, 11, 1) := by
  refine dup_nov hy (fun d e hd he h1 h2 q => ?_) ?_
  · have q := congrArg cs q
    rw [cs_DM hd, cs_DM he] at q
    have q := congrArg decDM q
    have b1 := hd.bd; have b2 := he.bd
    rw [decDM_ok _ (by omega) _ (by omega) b1.2.2.2 b1.2.2.1, decDM_ok _ (by omega) _ (by omega) b2.2.2.2 b2.2.2.1] at q
    exact dy_eq hd he (congrArg Prod.snd q) (congrArg Prod.fst q)
  · apply cs_inj
    rw [cs_DM (dy_of hy (mem_28 (by decide) (by decide))), cs_DM (dy_of hy (mem_28 (by decide) (by decide)))]
    show dg 11 ++ dg 1 = dg 1 ++ dg 11
    decide
theorem dup_MD (hy : Yr y) : IsDup (wr ["M", "D"]) (datesIn y y) (y, 1, 11) (y, 11, 1) := by
  refine dup_nov hy (fun d e hd he h1 h2 q => ?_) ?_
  · have q := congrArg cs q
    rw [cs_MD hd, cs_MD he] at q
    have q := congrArg decMD q
    have b1 := hd.bd; have b2 := he.bd
    rw [decMD_ok _ (by omega) _ (by omega) b1.2.2.2 b1.2.2.1, decMD_ok _ (by omega) _ (by omega) b2.2.2.2 b2.2.2.1] at q
    exact dy_eq hd he (congrArg Prod.snd q) (congrArg Prod.fst q)
  · apply cs_inj
    rw [cs_MD (dy_of hy (mem_28 (by decide) (by decide))), cs_MD (dy_of hy (mem_28 (by decide) (by decide)))]
    show dg 1 ++ dg 11 = dg 11 ++ dg 1
    decide
theorem dg2_inj : ∀ a ≤ 99, ∀ b ≤ 99, dg2 a = dg2 b → a = b := by decide +kernel
theorem monL_len : ∀ a ≤ 12, 1 ≤ a → (monL a).length = 3 := by decide +kernel
theorem monL_inj : ∀ a ≤ 12, ∀ b ≤ 12, 1 ≤ a → 1 ≤ b → monL a = monL b → a = b := by decide +kernel
theorem nodup_DDM (hy : Yr y) : ((datesIn y y).map (wr ["DD", "M"])).Nodup := nodup_on (dy_nodup y) fun a ha b hb q => by
  have ha := dy_of hy ha; have hb := dy_of hy hb
  have q := congrArg cs q
  rw [cs_two (cs_DD ha.ok) (cs_M ha.ok), cs_two (cs_DD hb.ok) (cs_M hb.ok)] at q
  obtain ⟨h1, h2⟩ := List.append_inj q rfl
  have b1 := ha.bd; have b2 := hb.bd
  exact dy_eq ha hb (dg_inj _ (by omega) _ (by omega) h2) (dg2_inj _ (by omega) _ (by omega) h1)
theorem nodup_MMD (hy : Yr y) : ((datesIn y y).map (wr ["MM", "D"])).Nodup := nodup_on (dy_nodup y) fun a ha b hb q => by
  have ha := dy_of hy ha; have hb := dy_of hy hb
  have q := congrArg cs q
  rw [cs_two (cs_MM ha.ok) (cs_D ha.ok), cs_two (cs_MM hb.ok) (cs_D hb.ok)] at q
  obtain ⟨h1, h2⟩ := List.append_inj q rfl
  have b1 := ha.bd; have b2 := hb.bd
  exact dy_eq ha hb (dg2_inj _ (by omega) _ (by omega) h1) (dg_inj _ (by omega) _ (by omega) h2)
theorem nodup_DMON (hy : Yr y) : ((datesIn y y).map (wr ["D", "MON"])).Nodup := nodup_on (dy_nodup y) fun a ha b hb q => by
  have ha := dy_of hy ha; have hb := dy_of hy hb
  have q := congrArg cs q
  rw [cs_two (cs_D ha.ok) (cs_MON ha.ok), cs_two (cs_D hb.ok) (cs_MON hb.ok)] at q
  have b1 := ha.bd; have b2 := hb.bd
  obtain ⟨h1, h2⟩ := List.append_inj' q (by rw [monL_len _ b1.1 b1.2.2.1, monL_len _ b2.1 b2.2.2.1])
  exact dy_eq ha hb (monL_inj _ b1.1 _ b2.1 b1.2.2.1 b2.2.2.1 h2) (dg_inj _ (by omega) _ (by omega) h1)
/-! unsorted -/
theorem dg2_lt : ∀ a ≤ 98, ltP (dg2 a) (dg2 (a + 1)) = true := by decide +kernel
theorem dg3_lt : ∀ a ≤ 998, ltP (dg3 a) (dg3 (a + 1)) = true := by decide +kernel
theorem ltP_pre : ∀ (p : List Nat) {a b : List Nat}, ltP a b = true → ltP (p ++ a) (p ++ b) = true
  | [], _, _, h => h
  | x :: p, a, b, h => by
    show (if x < x then true else if x = x then ltP (p ++ a) (p ++ b) else false) = true
    rw [if_neg (Nat.lt_irrefl _), if_pos rfl]
    exact ltP_pre p h
theorem ltP_app : ∀ {a b : List Nat} (s t : List Nat), ltP a b = true → ltP (a ++ s) (b ++ t) = true
  | [], _, s, t, h => by simp [ltP] at h
  | x :: a, [], s, t, h => by simp [ltP] at h
  | x :: a, z :: b, s, t, h => by
    unfold ltP at h
    show (if x < z then true else if x = z then ltP (a ++ s) (b ++ t) else false) = true
    split
    · rfl
    · rename_i h1
      rw [if_neg h1] at h
      split
      · rename_i h2
        rw [if_pos h2] at h
        exact ltP_app s t h
      · rename_i h2
        rw [if_neg h2] at h
        exact h
theorem slt_L {a b : Str} {x z : List Nat} (ha : cs a = x) (hb : cs b = z) (h : ltP x z = true) : slt a b = true := slt_P (s := []) (t := []) (by rw [ha, List.append_nil]) (by rw [hb, List.append_nil]) h
/-- month and day with two figures each: later dates have later texts, whatever is put ahead or between -/
theorem md_lt (hy : Yr y) {i : Nat} {d e : Dt} (h1 : (datesIn y y)[i]? = some d) (h2 : (datesIn y y)[i + 1]? = some e) (g : List Nat) : ltP (dg2 d.2.1.toNat ++ (g ++ dg2 d.2.2.toNat)) (dg2 e.2.1.toNat ++ (g ++ dg2 e.2.2.toNat)) = true := by
  have hd := dy_of hy (List.mem_of_getElem? h1)
  have b1 := hd.bd
  have := hd.m1; have := hd.z1
  rcases next_dy hy h1 h2 with ⟨q1, q2⟩ | ⟨q1, q2⟩
  · rw [q1, show e.2.2.toNat = d.2.2.toNat + 1 by omega]
    exact ltP_pre _ (ltP_pre _ (dg2_lt _ (by omega)))
  · rw [show e.2.1.toNat = d.2.1.toNat + 1 by omega]
    exact ltP_app _ _ (dg2_lt _ (by omega))
theorem uns_MMDD (hy : Yr y) : unsOf (wr ["MM", "DD"]) (datesIn y y) = none := uns_none fun i d e h1 h2 => by
  have hd := dy_of hy (List.mem_of_getElem? h1)
  have he := dy_of hy (List.mem_of_getElem? h2)
  exact slt_L (cs_two (cs_MM hd.ok) (cs_DD hd.ok)) (cs_two (cs_MM he.ok) (cs_DD he.ok)) (md_lt hy h1 h2 [])
theorem cs_J3 (hy : Yr y) {d : Dt} (h : d ∈ datesIn y y) : cs (pc "JJJ" d) = dg3 (piy d).toNat := by
  have hd := dy_of hy h
  have := piy_le hy h
  have := ylen_bd y
  exact cs_JJJ hd.ok (by omega)
theorem cs_Y4 (hy : Yr y) {d : Dt} (h : d ∈ datesIn y y) : cs (pc "YYYY" d) = dg4 y.toNat := by
  have hd := dy_of hy h
  rw [cs_YYYY hd.ok (by rw [hd.y]; omega), hd.y]
theorem uns_YJ (hy : Yr y) : unsOf (wr ["YYYY", "JJJ"]) (datesIn y y) = none := uns_none fun i d e h1 h2 => by
  have m1 := List.mem_of_getElem? h1
  have m2 := List.mem_of_getElem? h2
  have hp := piy_next hy h1 h2
  have := piy_le hy m1
  have := piy_le hy m2
  have := ylen_bd y
  refine slt_L (cs_two (cs_Y4 hy m1) (cs_J3 hy m1)) (cs_two (cs_Y4 hy m2) (cs_J3 hy m2)) (ltP_pre _ ?_)
  rw [show (piy e).toNat = (piy d).toNat + 1 by omega]
  exact dg3_lt _ (by omega)
theorem uns_J (hy : Yr y) : unsOf (wr ["J"]) (datesIn y y) = some (y, 1, 9) := by
  refine uns_at9 (A := dg) (S := []) (fun z h1 h2 => ?_) (by decide) (by decide)
  rw [cs_one (cs_J (dy_of hy (mem_jan (by omega))).ok), piy_jan, Int.toNat_natCast, List.append_nil]
theorem uns_MONDD (hy : Yr y) : unsOf (wr ["MON", "DD"]) (datesIn y y) = some (y, 1, 31) := by
  refine uns_at31 (A := fun z => monL 1 ++ dg2 z) (S := []) (b := monL 2 ++ dg2 1) (t := []) (fun z h1 h2 => ?_) (by decide +kernel) ?_ (by decide +kernel)
  · have h := (dy_of hy (mem_jan (y := y) (z := z) (by omega))).ok
    rw [cs_two (cs_MON h) (cs_DD h), List.append_nil, Int.toNat_natCast]
    rfl
  · have h := (dy_of hy (mem_28 (y := y) (m := 2) (z := 1) (by decide) (by decide))).ok
    rw [cs_two (cs_MON h) (cs_DD h), List.append_nil]
    rfl
theorem uns_DDMM (hy : Yr y) : unsOf (wr ["DD", "MM"]) (datesIn y y) = some (y, 1, 31) := by
  refine uns_at31 (A := fun z => dg2 z ++ dg2 1) (S := []) (b := dg2 1 ++ dg2 2) (t := []) (fun z h1 h2 => ?_) (by decide +kernel) ?_ (by decide +kernel)
  · have h := (dy_of hy (mem_jan (y := y) (z := z) (by omega))).ok
    rw [cs_two (cs_DD h) (cs_MM h), List.append_nil, Int.toNat_natCast]
    rfl
  · have h := (dy_of hy (mem_28 (y := y) (m := 2) (z := 1) (by decide) (by decide))).ok
    rw [cs_two (cs_DD h) (cs_MM h), List.append_nil]
    rfl
/-! ### the greedy reader -/
theorem mis_first {ps : List Str} (h : misD ps (y, 1, 1) = true) : misOf ps (datesIn y y) = some (y, 1, 1) := by
  obtain ⟨r, e⟩ := dy_head y
  unfold misOf
  rw [e, List.find?_cons, h]
theorem mis_DM (hy : Yr y) : misOf ["D", "M"] (datesIn y y) = some (y, 1, 1) := by
  refine mis_first (decide_eq_true ?_)
  rw [cs_DM (dy_of hy (mem_28 (by decide) (by decide)))]
  show gRes ["D", "M"] (dg 1 ++ dg 1) ≠ _
  rw [show gRes ["D", "M"] (dg 1 ++ dg 1) = none by decide +kernel]
  exact fun q => by cases q
theorem jy_no : ∀ n < 800, gRes ["J", "YYYY"] (dg 1 ++ dg4 (1600 + n)) ≠ some [.inl 1, .inl ((1600 + n : Nat) : Int)] := by decide +kernel
theorem mis_JY (hy : Yr y) : misOf ["J", "YYYY"] (datesIn y y) = some (y, 1, 1) := by
  refine mis_first (decide_eq_true ?_)
  have m : ((y, 1, 1) : Dt) ∈ datesIn y y := mem_28 (by decide) (by decide)
  rw [cs_two (cs_J (dy_of hy m).ok) (cs_Y4 hy m), piy_jan]
  have h := jy_no (y.toNat - 1600) (by omega)
  rw [show 1600 + (y.toNat - 1600) = y.toNat by omega] at h
  have e : dueF ["J", "YYYY"] (y, 1, 1) = [.inl 1, .inl ((y.toNat : Nat) : Int)] := by
    show [Sum.inl (piy (y, 1, 1)), Sum.inl y] = _
    rw [piy_jan, show ((y.toNat : Nat) : Int) = y by omega]
  rw [e]
  exact h
theorem take_2 {p : Str} (hp : isField p = true) (hm : isIn p ["MON", "WD"] = false) (hl : longest p = 2) {n : Nat} (hn : n ≤ 99) (r : List Nat) : gTake p (dg2 n ++ r) = some (.inl (n : Int), 2) := by
  have h : ∀ n ≤ 99, isDig (48 + n / 10) = true ∧ isDig (48 + n % 10) = true ∧ NumText.digitsVal [48 + n / 10, 48 + n % 10] = n := by decide +kernel
  obtain ⟨h1, h2, h3⟩ := h n hn
  unfold gTake
  rw [hp, hm, hl, if_neg (by decide), if_neg (by decide)]
  have e : ndig 2 (dg2 n ++ r) = 2 := by
    show ndig 2 ((48 + n / 10) :: (48 + n % 10) :: r) = 2
    unfold ndig
    rw [if_pos h1]
    unfold ndig
    rw [if_pos h2]
    unfold ndig
    rfl
  rw [e, if_pos (by decide)]
  show some (Sum.inl ((NumText.digitsVal [48 + n / 10, 48 + n % 10] : Nat) : Int), 2) = _
  rw [h3]
theorem res_2 {p : Str} {ps : List Str} (hp : isField p = true) (hm : isIn p ["MON", "WD"] = false) (hl : longest p = 2) {n : Nat} (hn : n ≤ 99) (r : List Nat) : gRes (p :: ps) (dg2 n ++ r) = (gRes ps r).map fun l => .inl (n : Int) :: l := by
  rw [gRes_some (take_2 hp hm hl hn r), hp]
  rfl
theorem mis_DDMMYY (hy : Yr y) : misOf ["DD", "MM", "YY"] (datesIn y y) = none := by
  unfold misOf
  rw [List.find?_eq_none]
  intro d hd
  have h := dy_of hy hd
  have hb := h.bd
  have := h.m1; have := h.z1; have := h.y
  unfold misD
  rw [cs_three (cs_DD h.ok) (cs_MM h.ok) (cs_YY h.ok), decide_eq_true_eq, Classical.not_not]
  rw [res_2 rfl rfl rfl (by omega), res_2 rfl rfl rfl (by omega), ← List.append_nil (dg2 (d.1 % 100).toNat), res_2 rfl rfl rfl (by omega)]
  show some [Sum.inl ((d.2.2.toNat : Nat) : Int), Sum.inl ((d.2.1.toNat : Nat) : Int), Sum.inl (((d.1 % 100).toNat : Nat) : Int)] = some [Sum.inl d.2.2, Sum.inl d.2.1, Sum.inl (d.1 % 100)]
  rw [show ((d.2.2.toNat : Nat) : Int) = d.2.2 by omega, show ((d.2.1.toNat : Nat) : Int) = d.2.1 by omega, show (((d.1 % 100).toNat : Nat) : Int) = d.1 % 100 by omega]
end
end DP
set_option Elab.async false
set_option linter.all false
set_option maxRecDepth 100000
set_option maxHeartbeats 1000000
namespace DP
open PySem L2 PyProof.Rows
section
variable {y : Int}
/-! ### bars -/
theorem pcb (d : Dt) : cs (pc "|" d) = [124] := by rw [pc_bar]; rfl
theorem okB_true {ps : List Str} {ds : List Dt} {gaps : List Nat} (h : (ds.map (wr (wb "|" ps gaps))).Nodup) : okB ps ds gaps = true := decide_eq_true h
theorem okB_false {ps : List Str} {ds : List Dt} {gaps : List Nat} (h : ¬ (ds.map (wr (wb "|" ps gaps))).Nodup) : okB ps ds gaps = false := decide_eq_false h
theorem bar_dig {n : Nat} (h : n ≤ 9999) : (124 : Nat) ∉ dg n := nodig h (by decide)
/-- parts told by a bar -/
theorem nd_bar (hy : Yr y) {ps : List Str} {A B : Dt → List Nat} (hf : ∀ d ∈ datesIn y y, cs (wr ps d) = A d ++ 124 :: B d) (hA : ∀ d ∈ datesIn y y, 124 ∉ A d) (hi : ∀ d ∈ datesIn y y, ∀ e ∈ datesIn y y, A d = A e → B d = B e → d = e) : ((datesIn y y).map (wr ps)).Nodup := nodup_on (dy_nodup y) fun a ha b hb q => by
  have q := congrArg cs q
  rw [hf a ha, hf b hb] at q
  obtain ⟨h1, h2⟩ := cut_inj (hA a ha) (hA b hb) q
  exact hi a ha b hb h1 h2
theorem nnd_two (hy : Yr y) {ps : List Str} {m z m' z' : Int} (h1 : ((y, m, z) : Dt) ∈ datesIn y y) (h2 : ((y, m', z') : Dt) ∈ datesIn y y) (hne : m ≠ m') (h : cs (wr ps (y, m, z)) = cs (wr ps (y, m', z'))) : ¬ ((datesIn y y).map (wr ps)).Nodup := not_nodup h1 h2 (fun q => hne (congrArg (fun d : Dt => d.2.1) q)) (cs_inj h)
theorem bars_DM (hy : Yr y) : barsOf ["D", "M"] (datesIn y y) = some [0] := by
  have e0 : okB ["D", "M"] (datesIn y y) (List.range 1) = true := okB_true (by
    show ((datesIn y y).map (wr ["D", "|", "M"])).Nodup
    refine nd_bar hy (A := fun d => dg d.2.2.toNat) (B := fun d => dg d.2.1.toNat) (fun d hd => ?_) (fun d hd => ?_) fun d hd e he h1 h2 => ?_
    · have h := dy_of hy hd
      rw [cs_three (cs_D h.ok) (pcb d) (cs_M h.ok)]
      rfl
    · have := (dy_of hy hd).bd; exact bar_dig (by omega)
    · have hd := dy_of hy hd; have he := dy_of hy he
      have := hd.bd; have := he.bd
      exact dy_eq hd he (dg_inj _ (by omega) _ (by omega) h2) (dg_inj _ (by omega) _ (by omega) h1))
  have e1 : okB ["D", "M"] (datesIn y y) [] = false := okB_false (by
    show ¬ ((datesIn y y).map (wr ["D", "M"])).Nodup
    refine nnd_two hy (m := 1) (z := 11) (m' := 11) (z' := 1) (mem_28 (by decide) (by decide)) (mem_28 (by decide) (by decide)) (by decide) ?_
    rw [cs_DM (dy_of hy (mem_28 (by decide) (by decide))), cs_DM (dy_of hy (mem_28 (by decide) (by decide)))]
    show dg 11 ++ dg 1 = dg 1 ++ dg 11
    decide)
  show (if okB ["D", "M"] (datesIn y y) (List.range 1) = true then some (((barL 1).find? (okB ["D", "M"] (datesIn y y))).getD (List.range 1)) else none) = _
  rw [if_pos e0]
  have e2 : barL 1 = [[]] := rfl
  rw [e2, List.find?_cons, e1]
  rfl
theorem bars_YMD (hy : Yr y) : barsOf ["YYYY", "M", "D"] (datesIn y y) = some [1] := by
  have hc : ∀ d ∈ datesIn y y, cs (pc "YYYY" d) = dg4 y.toNat ∧ cs (pc "M" d) = dg d.2.1.toNat ∧ cs (pc "D" d) = dg d.2.2.toNat := fun d hd => ⟨cs_Y4 hy hd, cs_M (dy_of hy hd).ok, cs_D (dy_of hy hd).ok⟩
  have hn4 : (124 : Nat) ∉ dg4 y.toNat := by unfold dg4; intro q; simp at q; omega
  have h1 : ((y, 1, 11) : Dt) ∈ datesIn y y := mem_28 (by decide) (by decide)
  have h11 : ((y, 11, 1) : Dt) ∈ datesIn y y := mem_28 (by decide) (by decide)
  have e0 : okB ["YYYY", "M", "D"] (datesIn y y) (List.range 2) = true := okB_true (by
    show ((datesIn y y).map (wr ["YYYY", "|", "M", "|", "D"])).Nodup
    refine nd_bar hy (A := fun _ => dg4 y.toNat) (B := fun d => dg d.2.1.toNat ++ 124 :: dg d.2.2.toNat) (fun d hd => ?_) (fun d hd => hn4) fun d hd e he q1 q2 => ?_
    · obtain ⟨c1, c2, c3⟩ := hc d hd
      rw [wr_cs]
      show cs (pc "YYYY" d) ++ (cs (pc "|" d) ++ (cs (pc "M" d) ++ (cs (pc "|" d) ++ (cs (pc "D" d) ++ [])))) = _
      rw [c1, c2, c3, pcb, List.append_nil]
      rfl
    · have hd := dy_of hy hd; have he := dy_of hy he
      have := hd.bd; have := he.bd
      obtain ⟨q3, q4⟩ := cut_inj (bar_dig (by omega)) (bar_dig (by omega)) q2
      exact dy_eq hd he (dg_inj _ (by omega) _ (by omega) q3) (dg_inj _ (by omega) _ (by omega) q4))
  have e1 : okB ["YYYY", "M", "D"] (datesIn y y) [] = false := okB_false (by
    show ¬ ((datesIn y y).map (wr ["YYYY", "M", "D"])).Nodup
    refine nnd_two hy h1 h11 (by decide) ?_
    rw [cs_three (hc _ h1).1 (hc _ h1).2.1 (hc _ h1).2.2, cs_three (hc _ h11).1 (hc _ h11).2.1 (hc _ h11).2.2]
    show _ ++ (dg 1 ++ dg 11) = _ ++ (dg 11 ++ dg 1)
    rw [show dg 1 ++ dg 11 = dg 11 ++ dg 1 by decide])
  have e2 : okB ["YYYY", "M", "D"] (datesIn y y) [0] = false := okB_false (by
    show ¬ ((datesIn y y).map (wr ["YYYY", "|", "M", "D"])).Nodup
    refine nnd_two hy h1 h11 (by decide) ?_
    rw [wr_cs, wr_cs]
    show cs (pc "YYYY" _) ++ (cs (pc "|" _) ++ (cs (pc "M" _) ++ (cs (pc "D" _) ++ []))) = cs (pc "YYYY" _) ++ (cs (pc "|" _) ++ (cs (pc "M" _) ++ (cs (pc "D" _) ++ [])))
    rw [(hc _ h1).1, (hc _ h1).2.1, (hc _ h1).2.2, (hc _ h11).1, (hc _ h11).2.1, (hc _ h11).2.2, pcb, pcb]
    show _ ++ (_ ++ (dg 1 ++ (dg 11 ++ []))) = _ ++ (_ ++ (dg 11 ++ (dg 1 ++ [])))
    rw [show dg 1 ++ (dg 11 ++ []) = dg 11 ++ (dg 1 ++ []) by decide])
  have e3 : okB ["YYYY", "M", "D"] (datesIn y y) [1] = true := okB_true (by
    show ((datesIn y y).map (wr ["YYYY", "M", "|", "D"])).Nodup
    refine nd_bar hy (A := fun d => dg4 y.toNat ++ dg d.2.1.toNat) (B := fun d => dg d.2.2.toNat) (fun d hd => ?_) (fun d hd q => ?_) fun d hd e he q1 q2 => ?_
    · obtain ⟨c1, c2, c3⟩ := hc d hd
      rw [wr_cs]
      show cs (pc "YYYY" d) ++ (cs (pc "M" d) ++ (cs (pc "|" d) ++ (cs (pc "D" d) ++ []))) = _
      rw [c1, c2, c3, pcb, List.append_nil, List.append_assoc]
      rfl
    · have := (dy_of hy hd).bd
      rcases List.mem_append.mp q with q | q
      · exact hn4 q
      · exact bar_dig (by omega) q
    · have hd := dy_of hy hd; have he := dy_of hy he
      have := hd.bd; have := he.bd
      exact dy_eq hd he (dg_inj _ (by omega) _ (by omega) (List.append_cancel_left q1)) (dg_inj _ (by omega) _ (by omega) q2))
  show (if okB ["YYYY", "M", "D"] (datesIn y y) (List.range 2) = true then some (((barL 2).find? (okB ["YYYY", "M", "D"] (datesIn y y))).getD (List.range 2)) else none) = _
  rw [if_pos e0]
  have e4 : barL 2 = [[], [0], [1]] := rfl
  rw [e4, List.find?_cons, e1, List.find?_cons, e2, List.find?_cons, e3]
  rfl
theorem bars_DDYY (hy : Yr y) : barsOf ["DD", "YY"] (datesIn y y) = none := by
  have h1 : ((y, 1, 1) : Dt) ∈ datesIn y y := mem_28 (by decide) (by decide)
  have h2 : ((y, 2, 1) : Dt) ∈ datesIn y y := mem_28 (by decide) (by decide)
  have e0 : okB ["DD", "YY"] (datesIn y y) (List.range 1) = false := okB_false (by
    show ¬ ((datesIn y y).map (wr ["DD", "|", "YY"])).Nodup
    refine nnd_two hy h1 h2 (by decide) ?_
    rw [cs_three (cs_DD (dy_of hy h1).ok) (pcb _) (cs_YY (dy_of hy h1).ok), cs_three (cs_DD (dy_of hy h2).ok) (pcb _) (cs_YY (dy_of hy h2).ok)])
  show (if okB ["DD", "YY"] (datesIn y y) (List.range 1) = true then some (((barL 1).find? (okB ["DD", "YY"] (datesIn y y))).getD (List.range 1)) else none) = _
  rw [if_neg (by rw [e0]; decide)]
/-! ### readings -/
theorem leap_iff (y : Int) : (ylen y = 366) ↔ isLong y = true := by unfold ylen; split <;> simp_all
theorem dg3_inj : ∀ a ≤ 366, dg3 a = [51, 54, 54] → a = 366 := by decide +kernel
theorem reads_366 (hy : Yr y) : reads ["JJJ"] y y "366" = if ylen y = 366 then [(y, 12, 31)] else [] := by
  unfold reads
  have hm : ((y, 12, 31) : Dt) ∈ datesIn y y := mem_dy.mpr ⟨rfl, ⟨by show (1 : Int) ≤ 12; decide, by show (12 : Int) ≤ 12; decide⟩, by show (1 : Int) ≤ 31; decide, by show (31 : Int) ≤ mlen y 12; rw [(mlen_12 y).1]; decide⟩
  have key : ∀ d ∈ datesIn y y, wr ["JJJ"] d = "366" ↔ piy d = 366 := fun d hd => by
    have := piy_le hy hd
    have := ylen_bd y
    constructor
    · intro q
      have q := congrArg cs q
      rw [cs_one (cs_J3 hy hd)] at q
      have := dg3_inj (piy d).toNat (by omega) q
      omega
    · intro q
      apply cs_inj
      rw [cs_one (cs_J3 hy hd), q]
      decide +kernel
  by_cases c : ylen y = 366
  · rw [if_pos c]
    refine filt_one (dy_nodup y) hm fun d hd => ?_
    rw [decide_eq_decide, key d hd]
    constructor
    · intro q
      exact piy_inj hy hd hm (by rw [q, piy_dec, c])
    · rintro rfl
      rw [piy_dec, c]
  · rw [if_neg c, List.filter_eq_nil_iff]
    intro d hd
    rw [decide_eq_true_eq, key d hd]
    have := piy_le hy hd
    have := ylen_bd y
    omega
theorem feb29_iff : ∀ z ≤ 31, ∀ m ≤ 12, 1 ≤ m → (dg2 z ++ monL m = cs "29feb" ↔ z = 29 ∧ m = 2) := by decide +kernel
theorem reads_29 (hy : Yr y) : reads ["DD", "MON"] y y "29feb" = if ylen y = 366 then [(y, 2, 29)] else [] := by
  unfold reads
  have hml : mlen y 2 = if isLong y = true then 29 else 28 := by unfold mlen; rw [if_pos rfl]
  have key : ∀ d ∈ datesIn y y, wr ["DD", "MON"] d = "29feb" ↔ d.2.2 = 29 ∧ d.2.1 = 2 := fun d hd => by
    have h := dy_of hy hd
    have hb := h.bd
    have := h.m1; have := h.z1
    have h3 := feb29_iff d.2.2.toNat hb.2.1 d.2.1.toNat hb.1 hb.2.2.1
    rw [← cs_two (cs_DD h.ok) (cs_MON h.ok)] at h3
    constructor
    · intro q
      have := h3.mp (congrArg cs q)
      omega
    · intro q
      exact cs_inj (h3.mpr (by omega))
  by_cases c : ylen y = 366
  · rw [if_pos c]
    have hm : ((y, 2, 29) : Dt) ∈ datesIn y y := mem_dy.mpr ⟨rfl, ⟨by show (1 : Int) ≤ 2; decide, by show (2 : Int) ≤ 12; decide⟩, by show (1 : Int) ≤ 29; decide, by show (29 : Int) ≤ mlen y 2; rw [hml, if_pos ((leap_iff y).mp c)]; decide⟩
    refine filt_one (dy_nodup y) hm fun d hd => ?_
    rw [decide_eq_decide, key d hd]
    constructor
    · intro q
      exact dt_ext (dy_of hy hd).y q.2 q.1
    · rintro rfl
      exact ⟨rfl, rfl⟩
  · rw [if_neg c, List.filter_eq_nil_iff]
    intro d hd
    rw [decide_eq_true_eq, key d hd]
    rintro ⟨q1, q2⟩
    have h4 := (mem_dy.mp hd).2.2.2
    rw [q2, hml, if_neg (fun q => c ((leap_iff y).mpr q))] at h4
    omega
theorem sat_iff : ∀ i ≤ 6, ∀ m ≤ 12, 1 ≤ m → (wdL i ++ monL m = cs "satfeb" ↔ i = 5 ∧ m = 2) := by decide +kernel
/-- the Saturdays of February -/
def sats (w n : Nat) : List Nat := (List.range n).filter fun i => decide ((w + i) % 7 = 5)
theorem sats_ok : ∀ w < 7, ∀ n, n = 28 ∨ n = 29 → ((sats w n).length = 4 ∨ (sats w n).length = 5) ∧ (((sats w n).zip ((sats w n).drop 1)).all fun p => decide (p.1 + 7 = p.2)) = true := by
  intro w hw n hn
  rcases hn with rfl | rfl
  · revert w; decide
  · revert w; decide
theorem mon_split (y : Int) : ∃ a b, datesIn y y = a ++ (monthDays y 2 ++ b) ∧ (∀ d ∈ a, d.2.1 ≠ 2) ∧ ∀ d ∈ b, d.2.1 ≠ 2 := by
  rw [dates_one]
  unfold yearDays
  refine ⟨monthDays y (1 + ((0 : Nat) : Int)), (List.range' 2 10).flatMap fun (i : Nat) => monthDays y (1 + (i : Int)), ?_, fun d hd => ?_, fun d hd => ?_⟩
  · have e1 : List.range 12 = 0 :: 1 :: List.range' 2 10 := rfl
    rw [e1, List.flatMap_cons, List.flatMap_cons]
    rfl
  · obtain ⟨j, _, rfl⟩ := List.mem_map.mp hd
    show (1 : Int) + ((0 : Nat) : Int) ≠ 2
    decide
  · obtain ⟨i, hi, hd⟩ := List.mem_flatMap.mp hd
    obtain ⟨j, _, rfl⟩ := List.mem_map.mp hd
    rw [List.mem_range'_1] at hi
    show (1 : Int) + (i : Int) ≠ 2
    omega
theorem weeks_eq (hy : Yr y) : ∃ w n : Nat, w < 7 ∧ (n = 28 ∨ n = 29) ∧ reads ["WD", "MON"] y y "satfeb" = (sats w n).map fun (i : Nat) => ((y, 2, 1 + (i : Int)) : Dt) := by
  obtain ⟨a, b, e, ha, hb⟩ := mon_split y
  have hml : mlen y 2 = if isLong y = true then 29 else 28 := by unfold mlen; rw [if_pos rfl]
  have hw := wdIx_bd (y, 2, 1)
  refine ⟨(wdIx (y, 2, 1)).toNat, (mlen y 2).toNat, by omega, by rw [hml]; split; exact .inr rfl; exact .inl rfl, ?_⟩
  unfold reads
  have key : ∀ d ∈ datesIn y y, decide (wr ["WD", "MON"] d = "satfeb") = decide (wdIx d = 5 ∧ d.2.1 = 2) := fun d hd => by
    have h := dy_of hy hd
    have hb := h.bd
    have := h.m1
    have hw := wdIx_bd d
    have h3 := sat_iff (wdIx d).toNat (by omega) d.2.1.toNat hb.1 hb.2.2.1
    rw [← cs_two cs_WD (cs_MON h.ok)] at h3
    rw [decide_eq_decide]
    constructor
    · intro q
      have := h3.mp (congrArg cs q)
      omega
    · intro q
      exact cs_inj (h3.mpr (by omega))
  rw [List.filter_congr key, e, List.filter_append, List.filter_append]
  rw [show a.filter (fun d => decide (wdIx d = 5 ∧ d.2.1 = 2)) = [] by rw [List.filter_eq_nil_iff]; intro d hd q; exact ha d hd (of_decide_eq_true q).2]
  rw [show b.filter (fun d => decide (wdIx d = 5 ∧ d.2.1 = 2)) = [] by rw [List.filter_eq_nil_iff]; intro d hd q; exact hb d hd (of_decide_eq_true q).2]
  rw [List.nil_append, List.append_nil]
  unfold monthDays sats
  rw [List.filter_map]
  congr 1
  refine List.filter_congr fun i hi => ?_
  show decide (wdIx (y, 2, 1 + (i : Int)) = 5 ∧ (2 : Int) = 2) = _
  have e1 : wdIx (y, 2, 1 + (i : Int)) = (wdIx (y, 2, 1) + i) % 7 := by
    rw [wdIx_jan, wdIx_jan]
    dsimp only
    have : piy (y, 2, 1 + (i : Int)) = piy (y, 2, 1) + i := by unfold piy; dsimp only; omega
    rw [this]
    omega
  rw [e1, decide_eq_decide]
  constructor
  · rintro ⟨q, _⟩; omega
  · intro q; exact ⟨by omega, rfl⟩
/-! ### weekdays -/
def wdT (w i : Nat) : Str := wdNames.getD ((w + i) % 7) ""
theorem wdT_ok : ∀ w < 7, ((List.range 7).map (wdT w)).Nodup ∧ wdT w 7 = wdT w 0 := by decide +kernel
theorem dup_WD (hy : Yr y) : IsDup (wr ["WD"]) (datesIn y y) (y, 1, 1) (y, 1, 8) := by
  have hw := wdIx_bd (y, 1, 1)
  have key : ∀ i : Nat, wr ["WD"] (y, 1, 1 + (i : Int)) = wdT (wdIx (y, 1, 1)).toNat i := fun i => by
    apply cs_inj
    rw [cs_one cs_WD]
    unfold wdL wdT
    have : (wdIx (y, 1, 1 + (i : Int))).toNat = ((wdIx (y, 1, 1)).toNat + i) % 7 := by
      rw [wdIx_jan, wdIx_jan, piy_jan, piy_jan]
      dsimp only
      omega
    rw [this]
  obtain ⟨h1, h2⟩ := wdT_ok (wdIx (y, 1, 1)).toNat (by omega)
  obtain ⟨r, e⟩ := dy_jan y
  have e3 : datesIn y y = ((List.range 7).map fun (i : Nat) => ((y, 1, 1 + (i : Int)) : Dt)) ++ (y, 1, 8) :: (((List.range' 9 23).map fun (z : Nat) => ((y, 1, (z : Int)) : Dt)) ++ (y, 2, 1) :: r) := e
  refine ⟨_, _, e3, ?_, ?_⟩
  · rw [List.map_map, show (wr ["WD"] ∘ fun (i : Nat) => ((y, 1, 1 + (i : Int)) : Dt)) = wdT (wdIx (y, 1, 1)).toNat from funext key]
    exact h1
  · have k0 : wr ["WD"] (y, 1, 1) = wdT (wdIx (y, 1, 1)).toNat 0 := key 0
    have k7 : wr ["WD"] (y, 1, 8) = wdT (wdIx (y, 1, 1)).toNat 7 := key 7
    show List.find? _ ((y, 1, 1) :: _) = _
    rw [List.find?_cons, k7, k0, h2, decide_eq_true rfl]
end
end DP
namespace DP
open PySem L2
def top (i : Nat) : Stmt := PySem.Challenge.pw_datepattern_k11_whole_known_dates.main.body.getD i (.Pass ⟨0, 0, 0, 0⟩)
abbrev t_is_count : Stmt := top 11
abbrev t_is_long : Stmt := top 12
abbrev t_month_length : Stmt := top 13
abbrev t_is_span : Stmt := top 14
abbrev t_need_span : Stmt := top 15
abbrev t_place_in_year : Stmt := top 16
abbrev t_weekday_of : Stmt := top 17
abbrev t_dates_in : Stmt := top 18
abbrev t_is_literal : Stmt := top 24
abbrev t_is_pattern : Stmt := top 25
abbrev t_need_pattern : Stmt := top 26
abbrev t_need_text : Stmt := top 27
abbrev t_padded : Stmt := top 28
abbrev t_value_of : Stmt := top 29
abbrev t_piece : Stmt := top 30
abbrev t_written : Stmt := top 31
abbrev t_table : Stmt := top 32
abbrev t_readings : Stmt := top 33
abbrev t_clash_of : Stmt := top 35
abbrev t_clash : Stmt := top 36
abbrev t_unsorted : Stmt := top 37
abbrev t_widths : Stmt := top 38
abbrev t_with_bars : Stmt := top 39
abbrev t_choices : Stmt := top 40
abbrev t_bars : Stmt := top 41
abbrev t_taken : Stmt := top 45
abbrev t_greedy_result : Stmt := top 46
abbrev t_misread : Stmt := top 47
abbrev t_confused : Stmt := top 50
abbrev t_need_patterns : Stmt := top 51
abbrev t_is_telling : Stmt := top 52
abbrev t_telling : Stmt := top 53
abbrev t__law_draw : Stmt := top 55
abbrev t__law_pick : Stmt := top 56
abbrev t__law_days : Stmt := top 57
abbrev t__law_dates : Stmt := top 58
abbrev t__law_weekday : Stmt := top 59
abbrev t__law_write : Stmt := top 60
abbrev t__law_orders : Stmt := top 61
abbrev t_law : Stmt := top 62
end DP
set_option Elab.async false
set_option linter.all false
set_option maxRecDepth 100000
set_option maxHeartbeats 1000000
namespace DP
open PySem L2
local macro_rules | `(tactic| walk_at "kx") => `(tactic| with_reducible assumption)
local macro_rules | `(tactic| walk_at "v") => `(tactic| first
  | ((with_reducible show wE _ _ (some _ :: _) _ _); refine v0 (by walk_at "kx") ?_)
  | ((with_reducible show wE _ _ (_ :: some _ :: _) _ _); refine v1 (by walk_at "kx") ?_)
  | ((with_reducible show wE _ _ (_ :: _ :: some _ :: _) _ _); refine v2 (by walk_at "kx") ?_)
  | ((with_reducible show wE _ _ (_ :: _ :: _ :: some _ :: _) _ _); refine v3 (by walk_at "kx") ?_)
  | ((with_reducible show wE _ _ (_ :: _ :: _ :: _ :: some _ :: _) _ _); refine v4 (by walk_at "kx") ?_)
  | ((with_reducible show wE _ _ (_ :: _ :: _ :: _ :: _ :: some _ :: _) _ _); refine v5 (by walk_at "kx") ?_)
  | ((with_reducible show wE _ _ (_ :: _ :: _ :: _ :: _ :: _ :: some _ :: _) _ _); refine v6 (by walk_at "kx") ?_)
  | ((with_reducible show wE _ _ (_ :: _ :: _ :: _ :: _ :: _ :: _ :: some _ :: _) _ _); refine v7 (by walk_at "kx") ?_)
  | ((with_reducible show wE _ _ (_ :: _ :: _ :: _ :: _ :: _ :: _ :: _ :: some _ :: _) _ _); refine v8 (by walk_at "kx") ?_)
  | ((with_reducible show wE _ _ (_ :: _ :: _ :: _ :: _ :: _ :: _ :: _ :: _ :: some _ :: _) _ _); refine v9 (by walk_at "kx") ?_)
  | ((with_reducible show wE _ _ (_ :: _ :: _ :: _ :: _ :: _ :: _ :: _ :: _ :: _ :: some _ :: _) _ _); refine v10 (by walk_at "kx") ?_)
  | ((with_reducible show wE _ _ (_ :: _ :: _ :: _ :: _ :: _ :: _ :: _ :: _ :: _ :: _ :: some _ :: _) _ _); refine v11 (by walk_at "kx") ?_)
  | ((with_reducible show wE _ _ (_ :: _ :: _ :: _ :: _ :: _ :: _ :: _ :: _ :: _ :: _ :: _ :: some _ :: _) _ _); refine v12 (by walk_at "kx") ?_)
  | ((with_reducible show wE _ _ (_ :: _ :: _ :: _ :: _ :: _ :: _ :: _ :: _ :: _ :: _ :: _ :: _ :: some _ :: _) _ _); refine v13 (by walk_at "kx") ?_)
  | ((with_reducible show wE _ _ (_ :: _ :: _ :: _ :: _ :: _ :: _ :: _ :: _ :: _ :: _ :: _ :: _ :: _ :: some _ :: _) _ _); refine v14 (by walk_at "kx") ?_)
  | ((with_reducible show wE _ _ (_ :: _ :: _ :: _ :: _ :: _ :: _ :: _ :: _ :: _ :: _ :: _ :: _ :: _ :: _ :: some _ :: _) _ _); refine v15 (by walk_at "kx") ?_)
  | ((with_reducible show wE _ _ (_ :: _ :: _ :: _ :: _ :: _ :: _ :: _ :: _ :: _ :: _ :: _ :: _ :: _ :: _ :: _ :: some _ :: _) _ _); refine v16 (by walk_at "kx") ?_)
  | ((with_reducible show wE _ _ (_ :: _ :: _ :: _ :: _ :: _ :: _ :: _ :: _ :: _ :: _ :: _ :: _ :: _ :: _ :: _ :: _ :: some _ :: _) _ _); refine v17 (by walk_at "kx") ?_)
  | ((with_reducible show wE _ _ (_ :: _ :: _ :: _ :: _ :: _ :: _ :: _ :: _ :: _ :: _ :: _ :: _ :: _ :: _ :: _ :: _ :: _ :: some _ :: _) _ _); refine v18 (by walk_at "kx") ?_)
  | ((with_reducible show wE _ _ (_ :: _ :: _ :: _ :: _ :: _ :: _ :: _ :: _ :: _ :: _ :: _ :: _ :: _ :: _ :: _ :: _ :: _ :: _ :: some _ :: _) _ _); refine v19 (by walk_at "kx") ?_)
  | ((with_reducible show wE _ _ (_ :: _ :: _ :: _ :: _ :: _ :: _ :: _ :: _ :: _ :: _ :: _ :: _ :: _ :: _ :: _ :: _ :: _ :: _ :: _ :: some _ :: _) _ _); refine v20 (by walk_at "kx") ?_)
  | ((with_reducible show wE _ _ (_ :: _ :: _ :: _ :: _ :: _ :: _ :: _ :: _ :: _ :: _ :: _ :: _ :: _ :: _ :: _ :: _ :: _ :: _ :: _ :: _ :: some _ :: _) _ _); refine v21 (by walk_at "kx") ?_)
  | ((with_reducible show wE _ _ (_ :: _ :: _ :: _ :: _ :: _ :: _ :: _ :: _ :: _ :: _ :: _ :: _ :: _ :: _ :: _ :: _ :: _ :: _ :: _ :: _ :: _ :: some _ :: _) _ _); refine v22 (by walk_at "kx") ?_)
  | ((with_reducible show wE _ _ (_ :: _ :: _ :: _ :: _ :: _ :: _ :: _ :: _ :: _ :: _ :: _ :: _ :: _ :: _ :: _ :: _ :: _ :: _ :: _ :: _ :: _ :: _ :: some _ :: _) _ _); refine v23 (by walk_at "kx") ?_)
  | ((with_reducible show wE _ _ (_ :: _ :: _ :: _ :: _ :: _ :: _ :: _ :: _ :: _ :: _ :: _ :: _ :: _ :: _ :: _ :: _ :: _ :: _ :: _ :: _ :: _ :: _ :: _ :: some _ :: _) _ _); refine v24 (by walk_at "kx") ?_))
local macro_rules | `(tactic| walk_at "g") => `(tactic| first
  | ((with_reducible show wG _ _ _ (_ :: _) _ _); refine g0 (by walk_at "kx") ?_)
  | ((with_reducible show wG _ _ _ (_ :: _ :: _) _ _); refine g1 (by walk_at "kx") ?_)
  | ((with_reducible show wG _ _ _ (_ :: _ :: _ :: _) _ _); refine g2 (by walk_at "kx") ?_)
  | ((with_reducible show wG _ _ _ (_ :: _ :: _ :: _ :: _) _ _); refine g3 (by walk_at "kx") ?_)
  | ((with_reducible show wG _ _ _ (_ :: _ :: _ :: _ :: _ :: _) _ _); refine g4 (by walk_at "kx") ?_)
  | ((with_reducible show wG _ _ _ (_ :: _ :: _ :: _ :: _ :: _ :: _) _ _); refine g5 (by walk_at "kx") ?_)
  | ((with_reducible show wG _ _ _ (_ :: _ :: _ :: _ :: _ :: _ :: _ :: _) _ _); refine g6 (by walk_at "kx") ?_)
  | ((with_reducible show wG _ _ _ (_ :: _ :: _ :: _ :: _ :: _ :: _ :: _ :: _) _ _); refine g7 (by walk_at "kx") ?_)
  | ((with_reducible show wG _ _ _ (_ :: _ :: _ :: _ :: _ :: _ :: _ :: _ :: _ :: _) _ _); refine g8 (by walk_at "kx") ?_)
  | ((with_reducible show wG _ _ _ (_ :: _ :: _ :: _ :: _ :: _ :: _ :: _ :: _ :: _ :: _) _ _); refine g9 (by walk_at "kx") ?_)
  | ((with_reducible show wG _ _ _ (_ :: _ :: _ :: _ :: _ :: _ :: _ :: _ :: _ :: _ :: _ :: _) _ _); refine g10 (by walk_at "kx") ?_)
  | ((with_reducible show wG _ _ _ (_ :: _ :: _ :: _ :: _ :: _ :: _ :: _ :: _ :: _ :: _ :: _ :: _) _ _); refine g11 (by walk_at "kx") ?_)
  | ((with_reducible show wG _ _ _ (_ :: _ :: _ :: _ :: _ :: _ :: _ :: _ :: _ :: _ :: _ :: _ :: _ :: _) _ _); refine g12 (by walk_at "kx") ?_)
  | ((with_reducible show wG _ _ _ (_ :: _ :: _ :: _ :: _ :: _ :: _ :: _ :: _ :: _ :: _ :: _ :: _ :: _ :: _) _ _); refine g13 (by walk_at "kx") ?_)
  | ((with_reducible show wG _ _ _ (_ :: _ :: _ :: _ :: _ :: _ :: _ :: _ :: _ :: _ :: _ :: _ :: _ :: _ :: _ :: _) _ _); refine g14 (by walk_at "kx") ?_)
  | ((with_reducible show wG _ _ _ (_ :: _ :: _ :: _ :: _ :: _ :: _ :: _ :: _ :: _ :: _ :: _ :: _ :: _ :: _ :: _ :: _) _ _); refine g15 (by walk_at "kx") ?_)
  | ((with_reducible show wG _ _ _ (_ :: _ :: _ :: _ :: _ :: _ :: _ :: _ :: _ :: _ :: _ :: _ :: _ :: _ :: _ :: _ :: _ :: _) _ _); refine g16 (by walk_at "kx") ?_)
  | ((with_reducible show wG _ _ _ (_ :: _ :: _ :: _ :: _ :: _ :: _ :: _ :: _ :: _ :: _ :: _ :: _ :: _ :: _ :: _ :: _ :: _ :: _) _ _); refine g17 (by walk_at "kx") ?_)
  | ((with_reducible show wG _ _ _ (_ :: _ :: _ :: _ :: _ :: _ :: _ :: _ :: _ :: _ :: _ :: _ :: _ :: _ :: _ :: _ :: _ :: _ :: _ :: _) _ _); refine g18 (by walk_at "kx") ?_)
  | ((with_reducible show wG _ _ _ (_ :: _ :: _ :: _ :: _ :: _ :: _ :: _ :: _ :: _ :: _ :: _ :: _ :: _ :: _ :: _ :: _ :: _ :: _ :: _ :: _) _ _); refine g19 (by walk_at "kx") ?_)
  | ((with_reducible show wG _ _ _ (_ :: _ :: _ :: _ :: _ :: _ :: _ :: _ :: _ :: _ :: _ :: _ :: _ :: _ :: _ :: _ :: _ :: _ :: _ :: _ :: _ :: _) _ _); refine g20 (by walk_at "kx") ?_)
  | ((with_reducible show wG _ _ _ (_ :: _ :: _ :: _ :: _ :: _ :: _ :: _ :: _ :: _ :: _ :: _ :: _ :: _ :: _ :: _ :: _ :: _ :: _ :: _ :: _ :: _ :: _) _ _); refine g21 (by walk_at "kx") ?_)
  | ((with_reducible show wG _ _ _ (_ :: _ :: _ :: _ :: _ :: _ :: _ :: _ :: _ :: _ :: _ :: _ :: _ :: _ :: _ :: _ :: _ :: _ :: _ :: _ :: _ :: _ :: _ :: _) _ _); refine g22 (by walk_at "kx") ?_)
  | ((with_reducible show wG _ _ _ (_ :: _ :: _ :: _ :: _ :: _ :: _ :: _ :: _ :: _ :: _ :: _ :: _ :: _ :: _ :: _ :: _ :: _ :: _ :: _ :: _ :: _ :: _ :: _ :: _) _ _); refine g23 (by walk_at "kx") ?_)
  | ((with_reducible show wG _ _ _ (_ :: _ :: _ :: _ :: _ :: _ :: _ :: _ :: _ :: _ :: _ :: _ :: _ :: _ :: _ :: _ :: _ :: _ :: _ :: _ :: _ :: _ :: _ :: _ :: _ :: _) _ _); refine g24 (by walk_at "kx") ?_))
local macro_rules | `(tactic| walk_at "ex") => `(tactic| first
  | with_reducible exact Ex.refl _ | with_reducible assumption
  | (with_reducible refine Ex.trans ?_ (Ex.new (by with_reducible assumption)); walk_at "ex")
  | (with_reducible refine Ex.trans ?_ (by with_reducible assumption); walk_at "ex"))
local macro_rules | `(tactic| walk_at "hh") => `(tactic| first
  | with_reducible exact upd_same | with_reducible assumption
  | (with_reducible refine Ex.new (by with_reducible assumption) _ _ ?_; walk_at "hh")
  | (with_reducible refine (by with_reducible assumption : Ex _ _) _ _ ?_; walk_at "hh"))
local macro_rules | `(tactic| walk_at "sqt") => `(tactic| first
  | with_reducible assumption | exact SqT.of upd_same | exact sqt_no (by with_reducible assumption) | (refine sqt_ex ?_ (by with_reducible assumption); walk_at "ex") | exact SqT.of (by walk_at "hh"))
local macro_rules | `(tactic| walk_at "op") => `(tactic| first
  | (with_reducible refine o_add ?_) | (with_reducible refine o_sub ?_) | (with_reducible refine o_lt ?_) | (with_reducible refine o_le ?_) | (with_reducible refine o_gt ?_) | (with_reducible refine o_ge ?_)
  | (with_reducible refine o_eqI ?_) | (with_reducible refine o_neI ?_) | (with_reducible refine o_eqS ?_) | (with_reducible refine o_neS ?_)
  | (with_reducible refine o_isN ?_) | (with_reducible refine o_notN ?_) | (with_reducible refine o_isB ?_) | (with_reducible refine o_notB ?_) | (with_reducible refine o_eqB ?_) | (with_reducible refine o_neB ?_)
  | ((with_reducible refine o_mod ?_ ?_); rotate_left; · first | decide | omega)
  | ((with_reducible refine o_fdiv ?_ ?_); rotate_left; · first | decide | omega)
  | ((with_reducible refine o_mul ?_ ?_); rotate_left; · first | exact Or.inl ⟨by decide, by decide⟩ | exact Or.inr ⟨by decide, by decide⟩)
  | ((with_reducible show wOp _ (compareOp .In) _ (.ref _) _ _); refine o_inT (by walk_at "kx") (by walk_at "sqt") (by rfl) (by rfl) ?_)
  | ((with_reducible show wOp _ (compareOp .NotIn) _ (.ref _) _ _); refine o_ninT (by walk_at "kx") (by walk_at "sqt") (by rfl) (by rfl) ?_))
local macro_rules | `(tactic| walk_at "call") => `(tactic| first
  | ((with_reducible show wE _ (.Call (.Name "len" _) _ _ _) _ _ _); refine f_len (by walk_at "kx") (by with_reducible assumption) ?_)
  | ((with_reducible show wE _ (.Call (.Name "isinstance" _) _ _ _) _ _ _); refine f_isinstance (by walk_at "kx") (by with_reducible assumption) ?_)
  | ((with_reducible show wE _ (.Call (.Name "all" _) _ _ _) _ _ _); refine f_all (by walk_at "kx") (by with_reducible assumption) ?_)
  | ((with_reducible show wE _ (.Call (.Name "any" _) _ _ _) _ _ _); refine f_any (by walk_at "kx") (by with_reducible assumption) ?_)
  | ((with_reducible show wE _ (.Call (.Name "sum" _) _ _ _) _ _ _); refine f_sum (by walk_at "kx") (by with_reducible assumption) ?_)
  | ((with_reducible show wE _ (.Call (.Name "min" _) _ _ _) _ _ _); refine f_min (by walk_at "kx") (by with_reducible assumption) ?_)
  | ((with_reducible show wE _ (.Call (.Name "max" _) _ _ _) _ _ _); refine f_max (by walk_at "kx") (by with_reducible assumption) ?_)
  | ((with_reducible show wE _ (.Call (.Name "sorted" _) _ _ _) _ _ _); refine f_sorted (by walk_at "kx") (by with_reducible assumption) ?_)
  | ((with_reducible show wE _ (.Call (.Name "tuple" _) _ _ _) _ _ _); refine f_tuple (by walk_at "kx") (by with_reducible assumption) ?_)
  | ((with_reducible show wE _ (.Call (.Name "str" _) _ _ _) _ _ _); refine f_str (by walk_at "kx") (by with_reducible assumption) ?_)
  | ((with_reducible show wE _ (.Call (.Name "list" _) [.Call (.Name "range" _) [_] _ _] _ _) _ _ _); refine e_listR (by walk_at "kx") (by with_reducible assumption) ?_)
  | ((with_reducible show wE _ (.Call (.Name "list" _) _ _ _) _ _ _); refine f_list (by walk_at "kx") (by with_reducible assumption) ?_)
  | ((with_reducible show wE _ (.Call (.Name "dict" _) _ _ _) _ _ _); refine f_dict (by walk_at "kx") (by with_reducible assumption) ?_)
  | ((with_reducible show wE _ (.Call (.Name "set" _) _ _ _) _ _ _); refine f_set (by walk_at "kx") (by with_reducible assumption) ?_)
  | ((with_reducible show wE _ (.Call (.Name _ _) _ _ _) _ _ _); refine e_call (by walk_at "kx") (by with_reducible assumption) ?_))
local macro_rules | `(tactic| walk_at "glob") => `(tactic| first
  | ((with_reducible show wE _ (.Name "int" _) _ _ _); refine n_int (by walk_at "kx") (by with_reducible assumption) ?_)
  | ((with_reducible show wE _ (.Name "bool" _) _ _ _); refine n_bool (by walk_at "kx") (by with_reducible assumption) ?_)
  | ((with_reducible show wE _ (.Name "tuple" _) _ _ _); refine n_tuple (by walk_at "kx") (by with_reducible assumption) ?_)
  | ((with_reducible show wE _ (.Name "str" _) _ _ _); refine n_str (by walk_at "kx") (by with_reducible assumption) ?_)
  | ((with_reducible show wE _ (.Name "list" _) _ _ _); refine n_list (by walk_at "kx") (by with_reducible assumption) ?_)
  | refine e_glob (by walk_at "kx") (by with_reducible assumption) ?_ | refine e_gt (by walk_at "kx") (by with_reducible assumption) (fun _ _ => ?_))
local macro_rules | `(tactic| walk_at "cc") => `(tactic| first
  | ((with_reducible show wC _ (.builtin "len") [.ref _] _ _); refine c_lenT (by walk_at "kx") (by walk_at "sqt") ?_)
  | ((with_reducible show wC _ (.builtin "len") [.str _] _ _); refine c_lenS (by first | exact sz5 (by with_reducible assumption) | exact sz5 (by omega)) ?_)
  | ((with_reducible show wC _ (.builtin "isinstance") [.int _, .ty "int"] _ _); refine isi_ii (by walk_at "kx") ?_)
  | ((with_reducible show wC _ (.builtin "isinstance") [.int _, .ty "bool"] _ _); refine isi_ib (by walk_at "kx") ?_)
  | ((with_reducible show wC _ (.builtin "isinstance") [.str _, .ty "str"] _ _); refine isi_ss (by walk_at "kx") ?_)
  | ((with_reducible show wC _ (.builtin "isinstance") [.int _, .ty "tuple"] _ _); refine isi_it (by walk_at "kx") ?_)
  | ((with_reducible show wC _ (.builtin "isinstance") [.ref _, .ty "tuple"] _ _); refine isi_tt (by walk_at "kx") (by walk_at "sqt") ?_))
local macro_rules | `(tactic| walk_at "dv") => `(tactic| first | with_reducible assumption | (refine DateV.tk (Tk.of ?_) (by with_reducible assumption); walk_at "ex"))
local macro_rules | `(tactic| walk_at "sv") => `(tactic| first | with_reducible assumption | (refine SpanV.tk (Tk.of ?_) (by with_reducible assumption); walk_at "ex"))
local macro_rules | `(tactic| walk_at "pv") => `(tactic| first | with_reducible assumption | (refine StrsV.tk (Tk.of ?_) (by with_reducible assumption); walk_at "ex"))
local macro_rules | `(tactic| walk_at "ptv") => `(tactic| first | with_reducible assumption | (refine PtsV.tk (Tk.of ?_) (by with_reducible assumption); walk_at "ex"))
local macro_rules | `(tactic| walk_at "okd") => `(tactic| first | with_reducible assumption | exact okD_of (by with_reducible assumption))
local macro_rules | `(tactic| walk_at "u") => `(tactic| first
  | ((with_reducible show sp_ldays _ _ _ _); refine u_ldays (fun _ _ _ _ _ => ?_))
  | ((with_reducible show sp_ldates _ _ _ _ _); refine u_ldates (by walk_at "sv") (by with_reducible assumption) (fun _ _ _ _ _ _ _ => ?_))
  | ((with_reducible show sp_lwrite _ _ _ _ _); refine u_lwV (by walk_at "pv") (by with_reducible assumption) (by with_reducible assumption) (by walk_at "dv") (by walk_at "okd") (fun _ _ => ?_))
  | ((with_reducible show sp_lwd _ _ _ _ _); refine u_lwd (by walk_at "dv") (by walk_at "okd") (fun _ _ => ?_))
  | ((with_reducible show sp_dates_in _ _ _ _ _); refine u_dates_in (by walk_at "sv") (by first | with_reducible assumption | exact isSp_b (by with_reducible assumption)) (fun _ _ _ _ _ _ _ => ?_))
  | ((with_reducible show sp_dates _ _ _ _ _); refine u_dates (by walk_at "sv") (by with_reducible assumption) (fun _ _ _ _ _ _ _ => ?_))
  | ((with_reducible show sp_table _ _ _ _ _); refine u_table (by walk_at "pv") (by with_reducible assumption) (by walk_at "sv") (by with_reducible assumption) (fun _ _ _ _ _ _ _ _ => ?_))
  | ((with_reducible show sp_readings _ _ _ _ _); refine u_readings (by walk_at "pv") (by with_reducible assumption) (by with_reducible assumption) (by walk_at "sv") (by with_reducible assumption) (fun _ _ _ _ _ _ _ => ?_))
  | ((with_reducible show sp_clash _ _ _ _ _); refine u_clash (by walk_at "pv") (by with_reducible assumption) (by with_reducible assumption) (by walk_at "sv") (by with_reducible assumption) (fun _ _ _ _ => ?_))
  | ((with_reducible show sp_confused _ _ _ _ _); refine u_confused (by walk_at "pv") (by with_reducible assumption) (by with_reducible assumption) (by walk_at "pv") (by with_reducible assumption) (by with_reducible assumption) (by walk_at "sv") (by with_reducible assumption) (fun _ _ _ _ => ?_))
  | ((with_reducible show sp_unsorted _ _ _ _ _); refine u_unsorted (by walk_at "pv") (by with_reducible assumption) (by with_reducible assumption) (by walk_at "sv") (by with_reducible assumption) (fun _ _ _ _ => ?_))
  | ((with_reducible show sp_widths _ _ _ _ _); refine u_widths (by walk_at "pv") (by with_reducible assumption) (by with_reducible assumption) (by walk_at "sv") (by with_reducible assumption) (fun _ _ _ _ _ _ _ _ => ?_))
  | ((with_reducible show sp_misread _ _ _ _ _); refine u_misread (by walk_at "pv") (by with_reducible assumption) (by with_reducible assumption) (by walk_at "sv") (by with_reducible assumption) (fun _ _ _ _ => ?_))
  | ((with_reducible show sp_clashO _ _ _ _ _); refine u_clashO (by walk_at "pv") (by with_reducible assumption) (by walk_at "sv") (by with_reducible assumption) (fun _ _ _ _ => ?_))
  | ((with_reducible show sp_bars _ _ _ _ _); refine u_bars (by walk_at "pv") (by with_reducible assumption) (by with_reducible assumption) (by walk_at "sv") (by with_reducible assumption) (fun _ _ _ _ => ?_))
  | ((with_reducible show sp_need_patterns _ _ _ _ _); refine u_need_patterns (by walk_at "ptv") (by with_reducible assumption) (fun _ _ => ?_))
  | ((with_reducible show sp_telling _ _ _ _ _); refine u_telling (by walk_at "ptv") (by with_reducible assumption) (by walk_at "sv") (by with_reducible assumption) (fun _ _ _ _ => ?_))
  | ((with_reducible show sp_is_literal _ _ _ _); refine u_is_literal (by first | with_reducible assumption | omega) (fun _ _ => ?_))
  | ((with_reducible show sp_is_pattern _ _ _ _ _); refine u_is_pattern (by walk_at "pv") (by with_reducible assumption) (fun _ _ => ?_))
  | ((with_reducible show sp_need_pattern _ _ _ _ _); refine u_need_pattern (by walk_at "pv") (by with_reducible assumption) (by with_reducible assumption) (fun _ _ => ?_))
  | ((with_reducible show sp_need_text _ _ _ _); refine u_need_text (fun _ _ => ?_))
  | ((with_reducible show sp_padded _ _ _ _); refine u_padded (by first | with_reducible assumption | omega) (by first | with_reducible assumption | omega) (fun _ _ => ?_))
  | ((with_reducible show sp_value_of _ _ _ _ _); refine u_value_of (by walk_at "dv") (by walk_at "okd") (fun _ _ => ?_))
  | ((with_reducible show sp_piece _ _ _ _ _); refine u_piece (by walk_at "dv") (by walk_at "okd") (by first | with_reducible assumption | omega) (fun _ _ => ?_))
  | ((with_reducible show sp_written _ _ _ _ _); refine u_written (by walk_at "pv") (by with_reducible assumption) (by walk_at "dv") (by walk_at "okd") (fun _ _ => ?_))
  | ((with_reducible show sp_write _ _ _ _ _); refine u_write (by walk_at "pv") (by with_reducible assumption) (by with_reducible assumption) (by walk_at "dv") (by with_reducible assumption) (fun _ _ => ?_))
  | ((with_reducible show sp_is_count _ _ _ _); refine u_is_count (fun _ _ => ?_)) | ((with_reducible show sp_is_long _ _ _ _); refine u_is_long (fun _ _ => ?_)) | ((with_reducible show sp_month_length _ _ _ _); refine u_month_length (fun _ _ => ?_))
  | ((with_reducible show sp_is_date _ _ _ _ _); refine u_is_date (by walk_at "dv") (fun _ _ => ?_))
  | ((with_reducible show sp_is_span _ _ _ _ _); refine u_is_span (by walk_at "sv") (fun _ _ => ?_))
  | ((with_reducible show sp_need_date _ _ _ _ _); refine u_need_date (by walk_at "dv") (by with_reducible assumption) (fun _ _ => ?_))
  | ((with_reducible show sp_need_span _ _ _ _ _); refine u_need_span (by walk_at "sv") (by with_reducible assumption) (fun _ _ => ?_))
  | ((with_reducible show sp_piy _ _ _ _ _); refine u_piy (by walk_at "dv") (by first | with_reducible assumption | exact isDt_m (by with_reducible assumption)) (fun _ _ => ?_))
  | ((with_reducible show sp_weekday_of _ _ _ _ _); refine u_weekday_of (by walk_at "dv") (by first | with_reducible assumption | exact isDt_m (by with_reducible assumption)) (fun _ _ => ?_))
  | ((with_reducible show sp_weekday _ _ _ _ _); refine u_weekday (by walk_at "dv") (by with_reducible assumption) (fun _ _ => ?_))
  | ((with_reducible show sp_day_of_year _ _ _ _ _); refine u_day_of_year (by walk_at "dv") (by with_reducible assumption) (fun _ _ => ?_)))
local macro_rules | `(tactic| walk_at "e") => `(tactic| first
  | ((with_reducible show wE _ (.Name _ _) _ _ _); first | walk_at "v" | walk_at "glob")
  | ((with_reducible show wE _ (.Constant _ _ _) _ _ _); first | with_reducible refine e_int ?_ | with_reducible refine e_str ?_ | with_reducible refine e_bl ?_ | with_reducible refine e_non ?_)
  | (with_reducible refine e_bin ?_)
  | ((with_reducible show wE _ (.Compare _ [_] [_] _) _ _ _); refine e_cmp ?_)
  | ((with_reducible show wE _ (.Compare _ [_, _] [_, _] _) _ _ _); refine e_chain ?_)
  | (with_reducible refine e_and ?_) | (with_reducible refine e_or ?_) | (with_reducible refine e_one ?_) | (with_reducible refine e_not ?_) | (with_reducible refine e_un ?_) | (with_reducible refine e_if ?_)
  | (with_reducible refine e_sl ?_)
  | ((with_reducible show wE _ (.Subscript _ _ _) _ _ _); refine e_ix ?_)
  | (with_reducible refine e_tup ?_) | (with_reducible refine e_lst ?_) | (with_reducible refine e_dnew ?_)
  | ((with_reducible show wE _ (.Call _ _ _ _) _ _ _); walk_at "call"))
local macro_rules | `(tactic| walk_at "t") => `(tactic| first
  | ((with_reducible show wT _ (.Compare _ [_] [_] _) _ _ _); refine t_cmp ?_)
  | ((with_reducible show wT _ (.Compare _ [_, _] [_, _] _) _ _ _); refine t_chain ?_)
  | (with_reducible refine t_not ?_)
  | ((with_reducible show wT _ (.BoolOp _ _ _) _ _ _); with_reducible refine t_w ?_)
  | ((with_reducible show wT _ (.Call _ _ _ _) _ _ _); refine t_val ?_)
  | ((with_reducible show wT _ (.Name _ _) _ _ _); refine t_val ?_))
local macro_rules | `(tactic| walk_at "st") => `(tactic| first
  | (with_reducible refine s_ret ?_) | (with_reducible refine s_if ?_)
  | ((with_reducible show wS _ (.Expr _ _) _ _ _ _ _ _); refine s_expr ?_)
  | ((fail_if_success (with_reducible show wS _ (.Assign [.Attribute _ _ _] _ _) _ _ _ _ _ _)); (with_reducible show wS _ (.Assign [_] _ _) _ _ _ _ _ _); refine s_asg ?_))
local macro_rules | `(tactic| walk_at "s") => `(tactic| first
  | ((with_reducible show wE _ _ _ _ _); walk_at "e")
  | ((with_reducible show wT _ _ _ _ _); walk_at "t")
  | ((with_reducible show wW _ _ _ _ _); first | with_reducible refine t_and ?_ | with_reducible refine t_or ?_ | with_reducible refine t_and1 ?_ | with_reducible refine t_or1 ?_)
  | ((with_reducible show wOp _ _ _ _ _ _); walk_at "op")
  | ((with_reducible show wUn _ _ _ _ _); with_reducible refine o_neg ?_)
  | ((with_reducible show wIx _ (.ref _) (.int _) _ _); first | refine ixT (by walk_at "kx") (by walk_at "sqt") (by rfl) ?_ | refine ixL (by walk_at "kx") (SqL.of (by with_reducible assumption)) (by rfl) ?_)
  | ((with_reducible show wA _ (_ :: _) _ _ _); refine a_cons ?_)
  | (with_reducible refine a_nil ?_)
  | ((with_reducible show wC _ _ _ _ _); walk_at "cc")
  | ((with_reducible show wS _ _ _ _ _ _ _ _); walk_at "st")
  | ((with_reducible show wG _ (.Name _ _) _ _ _ _); walk_at "g")
  | ((with_reducible show wGs _ (_ :: _) (_ :: _) _ _ _); refine gs_cons ?_)
  | (with_reducible refine gs_nil ?_)
  | (with_reducible refine ss_one ?_) | (with_reducible refine ss_cons ?_) | (with_reducible refine ss_nil ?_)
  | (with_reducible refine o_none ?_) | (with_reducible refine o_some ?_)
  | (with_reducible refine ex_bl ?_) | (with_reducible refine ex_int ?_) | (with_reducible refine iteNT (by with_reducible assumption) ?_) | (with_reducible refine iteT ?_) | (with_reducible refine iteF ?_) | (with_reducible refine ite_nt ?_) | (with_reducible refine ite_nf ?_)
  | walk_at "u"
  | ((with_reducible show ∀ (p : Addr), _ = none → _); intro _ _)
  | ((with_reducible refine len_le ?_ ?_); · exact Nat.le_of_ble_eq_true rfl))
local macro_rules | `(tactic| walk_at "go") => `(tactic| repeat walk_at "s")
local macro_rules | `(tactic| walk_at "sp") => `(tactic| first
  | ((with_reducible show (if decide (Str.ofString _ = Str.ofString _) = true then _ else _)); first | refine ite_dt rfl ?_ | refine ite_df (by decide) ?_)
  | ((with_reducible show (if decide (((List.length _ : Nat) : Int) = _) = true then _ else _)); first | refine ite_dt (by rfl) ?_ | refine ite_df (by simp) ?_)
  | ((with_reducible show (if (!decide (((List.length _ : Nat) : Int) = _)) = true then _ else _)); first | refine ite_ndt (by rfl) ?_ | refine ite_ndf (by simp) ?_)
  | ((with_reducible show (if decide (_ ≤ ((List.length _ : Nat) : Int)) = true then _ else _)); first | refine ite_dt (by decide) ?_ | refine ite_df (by decide) ?_)
  | ((with_reducible show (if decide (((List.length _ : Nat) : Int) ≤ _) = true then _ else _)); first | refine ite_dt (by decide) ?_ | refine ite_df (by decide) ?_)
  | (with_reducible refine ite_d (fun _ => ?_) (fun _ => ?_)) | (with_reducible refine ite_nd (fun _ => ?_) (fun _ => ?_)) | (with_reducible refine ite_nb (fun _ => ?_) (fun _ => ?_)) | (with_reducible refine ite_b (fun _ => ?_) (fun _ => ?_)))
local macro_rules | `(tactic| walk_at "sn") => `(tactic| first
  | ((with_reducible show wE _ (.Tuple _ _ _) _ _ _); refine e_tupN ?_)
  | ((with_reducible show wE _ (.List _ _) _ _ _); refine e_lstN ?_)
  | ((with_reducible show wE _ (.Subscript _ (.Slice none none (some (.UnaryOp .USub (.Constant (.int 1) _ _) _)) _) _) _ _ _); refine e_revN (by walk_at "kx") ?_)
  | ((with_reducible show ∀ (p : Addr) (H2 : Hp), _ = none → _); intro _ _ _ _ _)
  | walk_at "s")
local macro_rules | `(tactic| walk_at "gn") => `(tactic| repeat walk_at "sn")
local macro_rules | `(tactic| walk_at "gj") => `(tactic| repeat ((fail_if_success (with_reducible show wS _ (.If _ _ _ _) _ _ _ _ _ _)); walk_at "sn"))
local macro_rules | `(tactic| walk_at "gs") => `(tactic| repeat' (first | walk_at "s" | walk_at "sp"))

section
variable {P : Program} {w : World} {K : PySem.W.Frag} {mg : Str → Option Value} {base : Heap}
theorem sc_is_count : FnScope ["value", "least", "most"] ["value", "least", "most"] (defScope t_is_count) := ⟨rfl, rfl, rfl, by decide +kernel, rfl, by decide +kernel, by decide +kernel⟩
theorem c_is_count {f : Addr} {fd : FuncData} (F : Def K mg "is_count" t_is_count f fd) (b : Binds K fd ["value", "least", "most"] []) (B : Bn mg) : Cal P w K mg base 1 "is_count" sp_is_count := by
  refine cal_of _ F b sc_is_count (fun vs H Q E h => by obtain ⟨_, _, _, rfl, _⟩ := h; rfl) fun X H vs Q E C h => ?_
  obtain ⟨v, lo, hi, rfl, q⟩ := h
  show wSs X _ _ _ _ _ [some (.int v), some (.int lo), some (.int hi)] H
  refine ss_one ?_
  walk_at "gs"
  all_goals refine q.go ?_ (by walk_at "ex")
  all_goals simp [isCnt, *]
theorem sc_is_long : FnScope ["year"] ["year"] (defScope t_is_long) := ⟨rfl, rfl, rfl, by decide +kernel, rfl, by decide +kernel, by decide +kernel⟩
theorem c_is_long {f : Addr} {fd : FuncData} (F : Def K mg "is_long" t_is_long f fd) (b : Binds K fd ["year"] []) : Cal P w K mg base 1 "is_long" sp_is_long := by
  refine cal_of _ F b sc_is_long (fun vs H Q E h => by obtain ⟨y, rfl, _⟩ := h; rfl) fun X H vs Q E C h => ?_
  obtain ⟨y, rfl, q⟩ := h
  show wSs X _ _ _ _ _ [some (.int y)] H
  refine ss_one ?_
  walk_at "gs"
  all_goals refine q.go ?_ (by walk_at "ex")
  all_goals simp [isLong, *]
theorem sc_month_length : FnScope ["year", "month"] ["year", "month"] (defScope t_month_length) := ⟨rfl, rfl, rfl, by decide +kernel, rfl, by decide +kernel, by decide +kernel⟩
theorem c_month_length {f : Addr} {fd : FuncData} (F : Def K mg "month_length" t_month_length f fd) (b : Binds K fd ["year", "month"] []) (c1 : Cal P w K mg base 1 "is_long" sp_is_long) : Cal P w K mg base 2 "month_length" sp_month_length := by
  refine cal_of _ F b sc_month_length (fun vs H Q E h => by obtain ⟨_, _, rfl, _⟩ := h; rfl) fun X H vs Q E C h => ?_
  obtain ⟨y, m, rfl, q⟩ := h
  show wSs X _ _ _ _ _ [some (.int y), some (.int m)] H
  refine ss_cons ?_
  walk_at "gs"
  all_goals refine q.go ?_ (by walk_at "ex")
  all_goals simp_all [mlen, inV, eqV]
  all_goals omega
theorem sc_is_span : FnScope ["value", "year"] ["value"] (defScope t_is_span) := ⟨rfl, rfl, rfl, by decide +kernel, rfl, by decide +kernel, by decide +kernel⟩
theorem c_is_span {f : Addr} {fd : FuncData} (F : Def K mg "is_span" t_is_span f fd) (b : Binds K fd ["value"] []) (B : Bn mg) (c1 : Cal P w K mg base 1 "is_count" sp_is_count) (g1 : GV mg "FIRST" (.int 1600)) (g2 : GV mg "LAST" (.int 2399)) (g3 : GV mg "YEARS" (.int 12)) : Cal P w K mg base 2 "is_span" (sp_is_span K) := by
  refine cal_of _ F b sc_is_span (fun vs H Q E h => by obtain ⟨_, _, _, rfl, _⟩ := h; rfl) fun X H vs Q E C h => ?_
  obtain ⟨_, x, y, rfl, ⟨a, rfl, hq⟩, q⟩ := h
  show wSs X _ _ _ _ _ [some (.ref a), none] H
  refine ss_cons ?_
  walk_at "gs"
  refine e_lcG (i := 1) C [x, y] (fun z v _ => v = .bl (isCnt z 1600 2399)) (fun _ _ _ _ _ h => h) (by simp) (x_T C ?_)
  walk_at "go"
  refine ⟨a, _, rfl, hq, fun z u => u = .int z, .cons rfl (.cons rfl .nil), fun z u _ e H' x' X' C' => ?_, fun D ys H' nD x' hD hp => ?_⟩
  · subst e
    show wE X' _ [some (.ref a), some (.int z)] H' _
    walk_at "gs"
    exact ⟨by walk_at "ex", rfl⟩
  · rw [paired_eq (f := fun z => V.bl (isCnt z 1600 2399)) (fun _ _ q => q) hp] at hD
    refine a_nil (c_all C (bs := [isCnt x 1600 2399, isCnt y 1600 2399]) (SqL.of hD) ?_)
    walk_at "gs"
    all_goals refine q.go ?_ (by walk_at "ex")
    all_goals simp_all [isSp]
    all_goals omega
theorem sc_need_span : FnScope ["value"] ["value"] (defScope t_need_span) := ⟨rfl, rfl, rfl, by decide +kernel, rfl, by decide +kernel, by decide +kernel⟩
theorem c_need_span {f : Addr} {fd : FuncData} (F : Def K mg "need_span" t_need_span f fd) (b : Binds K fd ["value"] []) (c1 : Cal P w K mg base 2 "is_span" (sp_is_span K)) : Cal P w K mg base 3 "need_span" (sp_need_span K) := by
  refine cal_of _ F b sc_need_span (fun vs H Q E h => by obtain ⟨_, _, _, rfl, _⟩ := h; rfl) fun X H vs Q E C h => ?_
  obtain ⟨v, x, y, rfl, hd, hv, q⟩ := h
  show wSs X _ _ _ _ _ [some v] H
  refine ss_one ?_
  walk_at "gs"
  all_goals first | (exfalso; simp_all; done) | exact q _ (by walk_at "ex")
theorem sc_place_in_year : FnScope ["date", "month"] ["date"] (defScope t_place_in_year) := ⟨rfl, rfl, rfl, by decide +kernel, rfl, by decide +kernel, by decide +kernel⟩
theorem c_place_in_year {f : Addr} {fd : FuncData} (F : Def K mg "place_in_year" t_place_in_year f fd) (b : Binds K fd ["date"] []) (B : Bn mg) (c1 : Cal P w K mg base 2 "month_length" sp_month_length) : Cal P w K mg base 3 "place_in_year" (sp_piy K) := by
  refine cal_of _ F b sc_place_in_year (fun vs H Q E h => by obtain ⟨_, _, rfl, _⟩ := h; rfl) fun X H vs Q E C h => ?_
  obtain ⟨_, ⟨y, m, d⟩, rfl, ⟨a, rfl, hq⟩, hm, q⟩ := h
  dsimp only at hq hm
  show wSs X _ _ _ _ _ [some (.ref a), none] H
  refine ss_one ?_
  walk_at "gs"
  refine e_lcG (i := 1) C ((List.range (m - 1).toNat).map fun (n : Nat) => 1 + (n : Int)) (fun z v _ => v = .int (mlen y z)) (fun _ _ _ _ _ h => h) (by rw [List.length_map, List.length_range]; omega) (x_R2 C B ?_)
  walk_at "go"
  refine ⟨1, m, rfl, rfl, by omega, fun z u => u = .int z, paired_map2 (R := fun z u => u = V.int z) (fun _ => rfl) _, fun z u _ e H' x' X' C' => ?_, fun D ys H' nD x' hD hp => ?_⟩
  · subst e
    show wE X' _ [some (.ref a), some (.int z)] H' _
    walk_at "gs"
    exact ⟨by walk_at "ex", rfl⟩
  · rw [paired_eq (f := fun z => V.int (mlen y z)) (fun _ _ q => q) hp] at hD
    refine a_nil (c_sum C (ns := ((List.range (m - 1).toNat).map fun (n : Nat) => mlen y (1 + (n : Int)))) (SqL.of (by rw [hD]; simp [List.map_map, Function.comp_def])) ?_)
    walk_at "gs"
    all_goals refine q.go ?_ (by walk_at "ex")
    all_goals simp [piy]
theorem wd_at (d : Dt) : atI (wdNames.map V.str) (wdIx d) = some (.str (wdName d)) := atI_getD _ (wdIx_bd d).1 (wdIx_bd d).2
theorem sc_weekday_of : FnScope ["date", "year", "days"] ["date"] (defScope t_weekday_of) := ⟨rfl, rfl, rfl, by decide +kernel, rfl, by decide +kernel, by decide +kernel⟩
theorem c_weekday_of {f : Addr} {fd : FuncData} (F : Def K mg "weekday_of" t_weekday_of f fd) (b : Binds K fd ["date"] []) (c1 : Cal P w K mg base 3 "place_in_year" (sp_piy K)) (g1 : GT K mg "WEEKDAYS" (wdNames.map V.str)) : Cal P w K mg base 4 "weekday_of" (sp_weekday_of K) := by
  refine cal_of _ F b sc_weekday_of (fun vs H Q E h => by obtain ⟨_, _, rfl, _⟩ := h; rfl) fun X H vs Q E C h => ?_
  obtain ⟨_, ⟨y, m, d⟩, rfl, hd, hm, q⟩ := h
  obtain ⟨a, rfl, hq⟩ := id hd
  dsimp only at hq
  show wSs X _ _ _ _ _ [some (.ref a), none, none] H
  refine ss_cons ?_
  walk_at "go"
  rename_i a2 h2
  refine ixT C (sqt_no h2) (wd_at (y, m, d)) ?_
  exact q _ (by walk_at "ex")
theorem sc_dates_in : FnScope ["span", "found", "year", "month", "day"] ["span"] (defScope t_dates_in) := ⟨rfl, rfl, rfl, by decide +kernel, rfl, by decide +kernel, by decide +kernel⟩
theorem c_dates_in {f : Addr} {fd : FuncData} (F : Def K mg "dates_in" t_dates_in f fd) (b : Binds K fd ["span"] []) (B : Bn mg) (c1 : Cal P w K mg base 2 "month_length" sp_month_length) : Cal P w K mg base 3 "dates_in" (sp_dates_in K) := by
  refine cal_of _ F b sc_dates_in (fun vs H Q E h => by obtain ⟨_, _, _, rfl, _⟩ := h; rfl) fun X H vs Q E C h => ?_
  obtain ⟨_, y0, y1, rfl, ⟨a, rfl, hq⟩, hb, q⟩ := h
  show wSs X _ _ _ _ _ [some (.ref a), none, none, none, none] H
  refine ss_cons ?_
  walk_at "go"
  rename_i p np
  refine s_forR2 C B ?_
  walk_at "go"
  refine ⟨y0, y1 + 1, rfl, rfl, by omega, fun n σ' H' => ∃ o2 o3 xs, σ' = [some (.ref a), some (.ref p), o2, o3, none] ∧ Ex H H' ∧ H' p = some (.lst xs) ∧ DatesV K H' ((List.range n).flatMap fun (i : Nat) => yearDays (y0 + (i : Int))) xs, ⟨none, none, [], rfl, Ex.new np, upd_same, .nil⟩, fun n σ' H1 hn hP => ?_, fun σ' H1 hP => ?_⟩
  · obtain ⟨o2, o3, xs, rfl, x1, hp, hds⟩ := hP
    walk_at "go"
    refine s_forR2 C B ?_
    walk_at "go"
    refine ⟨1, 13, rfl, rfl, by omega, fun n2 σ' H' => ∃ o3 ys, σ' = [some (.ref a), some (.ref p), some (.int (y0 + (n : Int))), o3, none] ∧ Ex H H' ∧ H' p = some (.lst ys) ∧ DatesV K H' (((List.range n).flatMap fun (i : Nat) => yearDays (y0 + (i : Int))) ++ ((List.range n2).flatMap fun (i : Nat) => monthDays (y0 + (n : Int)) (1 + (i : Int)))) ys, ⟨o3, xs, rfl, x1, hp, by simpa using hds⟩, fun n2 σ' H2 hn2 hP => ?_, fun σ' H2 hP => ?_⟩
    · obtain ⟨o3, ys, rfl, x2, hp2, hds2⟩ := hP
      walk_at "go"
      refine m_ext ?_
      walk_at "go"
      refine ⟨p, ys, rfl, hp2, ?_⟩
      have hml := mlen_bd (y0 + (n : Int)) (1 + (n2 : Int))
      refine e_lcG (i := 4) C (monthDays (y0 + (n : Int)) (1 + (n2 : Int))) (fun z v H => DateV K H z v) (fun _ _ _ _ e h => h.tk e) (by have := monthDays_len (y0 + (n : Int)) (1 + (n2 : Int)); omega) (x_R2 C B ?_)
      walk_at "go"
      rename_i H3 x3
      refine ⟨1, mlen (y0 + (n : Int)) (1 + (n2 : Int)) + 1, rfl, rfl, by omega, fun z u => z = (y0 + (n : Int), 1 + (n2 : Int), z.2.2) ∧ u = .int z.2.2, ?_, fun z u _ e H' x' X' C' => ?_, fun D zs H' nD x' hD hzs => ?_⟩
      · have e : (mlen (y0 + (n : Int)) (1 + (n2 : Int)) + 1 - 1).toNat = (mlen (y0 + (n : Int)) (1 + (n2 : Int))).toNat := by omega
        rw [e]
        exact paired_map2 (fun i => ⟨rfl, rfl⟩) _
      · obtain ⟨e1, e2⟩ := e
        subst e2
        show wE X' _ [some (.ref a), some (.ref p), some (.int (y0 + (n : Int))), some (.int (1 + (n2 : Int))), some (.int z.2.2)] H' _
        walk_at "go"
        refine ⟨by walk_at "ex", _, rfl, ?_⟩
        rw [e1]
        exact SqT.of upd_same
      · have hp3 : H' p = some (.lst ys) := x' _ _ (x3 _ _ hp2)
        have hl1 := hds2.len
        have hl2 : zs.length = _ := (Paired.length hzs).symm
        have l1 := flatMap_len (fun (i : Nat) => yearDays_len (y0 + (i : Int))) (List.range n)
        have l2 := flatMap_len (fun (i : Nat) => monthDays_len (y0 + (n : Int)) (1 + (i : Int))) (List.range n2)
        have l3 := monthDays_len (y0 + (n : Int)) (1 + (n2 : Int))
        rw [List.length_range] at l1 l2
        rw [List.length_append] at hl1
        refine ⟨D, ys, zs, rfl, hp3, hD, sz5 (by omega), ?_⟩
        walk_at "go"
        refine ⟨some (.int (1 + (n2 : Int))), ys ++ zs, rfl, Ex.mut (Ex.trans x2 (Ex.trans x3 x')) np, upd_same, ?_⟩
        rw [List.range_succ, List.flatMap_append, ← List.append_assoc]
        have ee : List.flatMap (fun (i : Nat) => monthDays (y0 + (n : Int)) (1 + (i : Int))) [n2] = monthDays (y0 + (n : Int)) (1 + (n2 : Int)) := by simp
        rw [ee]
        exact paired_app (DatesV.tk (Tk.trans (Tk.of (Ex.trans x3 x')) (Tk.lst hp3)) hds2) (DatesV.tk (Tk.lst hp3) hzs)
    · obtain ⟨o3, ys, rfl, x2, hp2, hds2⟩ := hP
      walk_at "go"
      refine ⟨_, o3, ys, rfl, x2, hp2, ?_⟩
      rw [List.range_succ, List.flatMap_append]
      have ee : List.flatMap (fun (i : Nat) => yearDays (y0 + (i : Int))) [n] = yearDays (y0 + (n : Int)) := by simp
      rw [ee]
      exact hds2
  · obtain ⟨o2, o3, xs, rfl, x1, hp, hds⟩ := hP
    walk_at "go"
    exact q p H1 xs np x1 hp hds
end

section
variable {P : Program} {w : World} {K : PySem.W.Frag} {mg : Str → Option Value} {base : Heap}
theorem sc_is_literal : FnScope ["value", "char"] ["value"] (defScope t_is_literal) := ⟨rfl, rfl, rfl, by decide +kernel, rfl, by decide +kernel, by decide +kernel⟩
theorem c_is_literal {f : Addr} {fd : FuncData} (F : Def K mg "is_literal" t_is_literal f fd) (b : Binds K fd ["value"] []) (B : Bn mg) (g1 : GV mg "LITERAL" (.str litText)) : Cal P w K mg base 1 "is_literal" sp_is_literal := by
  refine cal_of _ F b sc_is_literal (fun vs H Q E h => by obtain ⟨_, rfl, _⟩ := h; rfl) fun X H vs Q E C h => ?_
  obtain ⟨p, rfl, hl, q⟩ := h
  show wSs X _ _ _ _ _ [some (.str p), none] H
  refine ss_one ?_
  walk_at "gs"
  · refine e_lcG (i := 1) C p.cps.toList (fun c v _ => v = .bl (decide (c ∈ litText.cps.toList))) (fun _ _ _ _ _ h => h) (by rw [Array.length_toList]; exact hl) (x_S ?_)
    walk_at "go"
    refine ⟨p, rfl, fun z u => u = .str ⟨#[z]⟩, paired_self (R := fun z u => u = V.str ⟨#[z]⟩) (fun _ => rfl) _, fun z u _ e H' x' X' C' => ?_, fun D ys H' nD x' hD hp => ?_⟩
    · subst e
      show wE X' _ [some (.str p), some (.str ⟨#[z]⟩)] H' _
      walk_at "go"
      refine o_inS ?_
      exact ⟨by walk_at "ex", rfl⟩
    · rw [paired_eq (f := fun c => V.bl (decide (c ∈ litText.cps.toList))) (fun _ _ q => q) hp] at hD
      refine a_nil (c_all C (bs := p.cps.toList.map fun c => decide (c ∈ litText.cps.toList)) (SqL.of (by rw [hD, List.map_map]; rfl)) ?_)
      refine q.go ?_ (by walk_at "ex")
      rename_i h1 h2
      have h1' : 1 ≤ p.length := by omega
      simp [isLit, h1', List.all_map, Function.comp_def]
      omega
  all_goals refine q.go ?_ (by walk_at "ex")
  all_goals simp [isLit]
  all_goals omega
theorem sc_need_text : FnScope ["value"] ["value"] (defScope t_need_text) := ⟨rfl, rfl, rfl, by decide +kernel, rfl, by decide +kernel, by decide +kernel⟩
theorem c_need_text {f : Addr} {fd : FuncData} (F : Def K mg "need_text" t_need_text f fd) (b : Binds K fd ["value"] []) (B : Bn mg) : Cal P w K mg base 1 "need_text" sp_need_text := by
  refine cal_of _ F b sc_need_text (fun vs H Q E h => by obtain ⟨_, rfl, _⟩ := h; rfl) fun X H vs Q E C h => ?_
  obtain ⟨t, rfl, q⟩ := h
  show wSs X _ _ _ _ _ [some (.str t)] H
  refine ss_one ?_
  walk_at "gs"
  exact q _ (by walk_at "ex")
theorem log_small {n : Int} (h0 : 0 ≤ n) (h1 : n ≤ 9999) : n.natAbs.log2 < 1920 := by
  have h : n.natAbs ≤ 9999 := by omega
  have : n.natAbs.log2 ≤ n.natAbs.log2 := Nat.le_refl _
  by_cases h2 : n.natAbs = 0
  · rw [h2]; decide
  · rw [Nat.log2_lt h2]
    exact Nat.lt_of_le_of_lt h (by decide +kernel)
theorem sc_padded : FnScope ["number", "digits", "text"] ["number", "digits"] (defScope t_padded) := ⟨rfl, rfl, rfl, by decide +kernel, rfl, by decide +kernel, by decide +kernel⟩
theorem c_padded {f : Addr} {fd : FuncData} (F : Def K mg "padded" t_padded f fd) (b : Binds K fd ["number", "digits"] []) (B : Bn mg) : Cal P w K mg base 1 "padded" sp_padded := by
  refine cal_of _ F b sc_padded (fun vs H Q E h => by obtain ⟨_, _, rfl, _⟩ := h; rfl) fun X H vs Q E C h => ?_
  obtain ⟨n, k, rfl, hn, hk, q⟩ := h
  have hl := numS_len hn.1 hn.2
  show wSs X _ _ _ _ _ [some (.int n), some (.int k), none] H
  refine ss_cons ?_
  walk_at "go"
  refine c_strI (log_small hn.1 hn.2) ?_
  show wG X _ (.str (numS n)) _ _ _
  walk_at "go"
  refine o_mulS ?_ ?_
  · walk_at "go"
    refine o_addS ?_ (sz5 ?_)
    · exact q _ (by walk_at "ex")
    · rw [mul0_len]
      omega
  · refine ⟨by simp; omega, fun h1 _ => ?_, fun h1 _ => ?_⟩
    · have e : ((Str.ofString "0").length : Int) = 1 := by decide +kernel
      rw [e]
      intro h
      have : (2 ^ 63 - 1) / (k - ((numS n).length : Int)) ≥ 1 := by
        apply Int.le_ediv_of_mul_le
        · omega
        · omega
      omega
    · have e : (Str.ofString "0").length = 1 := by decide +kernel
      rw [e]
      show decide _ = false
      have hz : (1000 : Nat) ≤ sizeLine := by decide
      simp
      omega
theorem sc_value_of : FnScope ["part", "date"] ["part", "date"] (defScope t_value_of) := ⟨rfl, rfl, rfl, by decide +kernel, rfl, by decide +kernel, by decide +kernel⟩
theorem c_value_of {f : Addr} {fd : FuncData} (F : Def K mg "value_of" t_value_of f fd) (b : Binds K fd ["part", "date"] []) (B : Bn mg) (c1 : Cal P w K mg base 4 "weekday_of" (sp_weekday_of K)) (c2 : Cal P w K mg base 3 "place_in_year" (sp_piy K)) (g1 : GT K mg "MONTHS" (monNames.map V.str)) : Cal P w K mg base 5 "value_of" (sp_value_of K) := by
  refine cal_of _ F b sc_value_of (fun vs H Q E h => by obtain ⟨_, _, _, rfl, _⟩ := h; rfl) fun X H vs Q E C h => ?_
  obtain ⟨p, _, ⟨y, m, d⟩, rfl, hd, hok, q⟩ := h
  obtain ⟨a, rfl, hq⟩ := id hd
  have hm := okD_m hok
  dsimp only at hq
  show wSs X _ _ _ _ _ [some (.str p), some (.ref a)] H
  refine ss_cons ?_
  walk_at "gs"
  all_goals first | skip | skip
  · refine q.go ?_ (by walk_at "ex")
    exact fval_D (by assumption)
  · refine q.go ?_ (by walk_at "ex")
    exact fval_M (by assumption)
  · refine ixT C (sqt_no (by assumption)) (mon_at hok.2.1.1 hok.2.1.2) ?_
    refine q.go ?_ (by walk_at "ex")
    rename_i e _ _
    rw [e]
    exact fval_MON
  · refine q.go ?_ (by walk_at "ex")
    rename_i e _ _
    rw [e]
    exact fval_WD
  · refine q.go ?_ (by walk_at "ex")
    exact fval_J (by assumption)
  · refine q.go ?_ (by walk_at "ex")
    rw [fval_Y (by assumption) (by assumption) (by assumption) (by assumption) (by assumption), if_pos (by assumption)]
  · refine q.go ?_ (by walk_at "ex")
    rw [fval_Y (by assumption) (by assumption) (by assumption) (by assumption) (by assumption), if_neg (by assumption)]
theorem sc_piece : FnScope ["part", "date", "value"] ["part", "date"] (defScope t_piece) := ⟨rfl, rfl, rfl, by decide +kernel, rfl, by decide +kernel, by decide +kernel⟩
theorem c_piece {f : Addr} {fd : FuncData} (F : Def K mg "piece" t_piece f fd) (b : Binds K fd ["part", "date"] []) (B : Bn mg) (c1 : Cal P w K mg base 5 "value_of" (sp_value_of K)) (c2 : Cal P w K mg base 1 "padded" sp_padded) (g1 : GT K mg "FIELDS" (fields.map V.str)) : Cal P w K mg base 6 "piece" (sp_piece K) := by
  refine cal_of _ F b sc_piece (fun vs H Q E h => by obtain ⟨_, _, _, rfl, _⟩ := h; rfl) fun X H vs Q E C h => ?_
  obtain ⟨p, v, d, rfl, hd, hok, hl, q⟩ := h
  have hi := ival_bd (p := p) hok
  show wSs X _ _ _ _ _ [some (.str p), some v, none] H
  refine ss_cons ?_
  walk_at "gs"
  · refine q.go ?_ (by walk_at "ex")
    rw [pc_lit (by assumption)]
  · rw [fval_s (by assumption)]
    refine q.go ?_ (by walk_at "ex")
    rw [pc_s (by assumption) (by assumption)]
  · rw [fval_i (by assumption)]
    walk_at "go"
    refine q.go ?_ (by walk_at "ex")
    rw [pc_i1 (by assumption) (by assumption) (by assumption)]
  · rw [fval_i (by assumption)]
    walk_at "go"
    refine q.go ?_ (by walk_at "ex")
    rw [pc_i2 (by assumption) (by assumption) (by assumption)]
theorem sc_written : FnScope ["pattern", "date", "part"] ["pattern", "date"] (defScope t_written) := ⟨rfl, rfl, rfl, by decide +kernel, rfl, by decide +kernel, by decide +kernel⟩
theorem c_written {f : Addr} {fd : FuncData} (F : Def K mg "written" t_written f fd) (b : Binds K fd ["pattern", "date"] []) (B : Bn mg) (c1 : Cal P w K mg base 6 "piece" (sp_piece K)) : Cal P w K mg base 7 "written" (sp_written K) := by
  refine cal_of _ F b sc_written (fun vs H Q E h => by obtain ⟨_, _, _, _, rfl, _⟩ := h; rfl) fun X H vs Q E C h => ?_
  obtain ⟨_, ps, v, d, rfl, ⟨a, rfl, hq⟩, hs, hd, hok, q⟩ := h
  show wSs X _ _ _ _ _ [some (.ref a), some v, none] H
  refine ss_one ?_
  walk_at "go"
  refine e_joinC C ?_
  refine e_lcG (i := 2) C ps (fun z v _ => v = .str (pc z d)) (fun _ _ _ _ _ h => h) (Nat.le_trans hs.1 (by decide)) (x_T C ?_)
  walk_at "go"
  refine ⟨a, _, rfl, hq, fun z u => u = .str z, paired_self (R := fun z u => u = V.str z) (fun _ => rfl) _, fun z u hz e H' x' X' C' => ?_, fun D ys H' nD x' hD hp => ?_⟩
  · subst e
    have hzl := hs.2 z hz
    show wE X' _ [some (.ref a), some v, some (.str z)] H' _
    walk_at "go"
    exact ⟨by walk_at "ex", rfl⟩
  · rw [paired_eq (f := fun z => V.str (pc z d)) (fun _ _ q => q) hp] at hD
    refine ⟨D, ps.map fun p => pc p d, rfl, SqL.of (by rw [hD, List.map_map]; rfl), ?_, q _ (by walk_at "ex")⟩
    have := sum_len hok hs
    have e : (Str.ofString "").length = 0 := rfl
    rw [e]
    omega
theorem sc_is_pattern : FnScope ["value", "part", "one", "other"] ["value"] (defScope t_is_pattern) := ⟨rfl, rfl, rfl, by decide +kernel, rfl, by decide +kernel, by decide +kernel⟩
theorem c_is_pattern {f : Addr} {fd : FuncData} (F : Def K mg "is_pattern" t_is_pattern f fd) (b : Binds K fd ["value"] []) (B : Bn mg) (c1 : Cal P w K mg base 1 "is_literal" sp_is_literal) (g1 : GT K mg "FIELDS" (fields.map V.str)) (g2 : GV mg "PARTS" (.int 7)) : Cal P w K mg base 2 "is_pattern" (sp_is_pattern K) := by
  refine cal_of _ F b sc_is_pattern (fun vs H Q E h => by obtain ⟨_, _, rfl, _⟩ := h; rfl) fun X H vs Q E C h => ?_
  obtain ⟨_, ps, rfl, ⟨a, rfl, hq⟩, hs, q⟩ := h
  show wSs X _ _ _ _ _ [some (.ref a), none, none, none] H
  refine ss_cons ?_
  walk_at "gs"
  all_goals rw [List.length_map] at *
  · refine q.go ?_ (by walk_at "ex")
    simp [isPat]
    omega
  · refine e_lcG (i := 1) C ps (fun z v _ => v = .bl (isField z || isLit z)) (fun _ _ _ _ _ h => h) (Nat.le_trans hs.1 (by decide)) (x_T C ?_)
    walk_at "go"
    refine ⟨a, _, rfl, hq, fun z u => u = .str z, paired_self (R := fun z u => u = V.str z) (fun _ => rfl) _, fun z u hz e H' x' X' C' => ?_, fun D ys H' nD x' hD hp => ?_⟩
    · subst e
      have hzl : z.length ≤ 1000000 := Nat.le_trans (hs.2 z hz) (by decide)
      show wE X' _ [some (.ref a), some (.str z), none, none] H' _
      walk_at "gs"
      all_goals refine ⟨by walk_at "ex", ?_⟩
      all_goals dsimp only
      · rename_i e
        have e' : isField z = true := e
        rw [e']
        rfl
      · rename_i e _ _
        have e' : isField z = false := e
        rw [e']
        rfl
    · rw [paired_eq (f := fun z => V.bl (isField z || isLit z)) (fun _ _ q => q) hp] at hD
      refine a_nil (c_all C (bs := ps.map fun z => isField z || isLit z) (SqL.of (by rw [hD, List.map_map]; rfl)) ?_)
      rw [List.all_map]
      walk_at "gs"
      · refine q.go ?_ (by walk_at "ex")
        rename_i e
        have e' : ps.all (fun p => isField p || isLit p) = false := e
        simp only [isPat, e', Bool.false_and, Bool.and_false]
      · rename_i e
        have e' : ps.all (fun p => isField p || isLit p) = true := e
        refine e_lc2G (i := 2) (j := 3) C (ps.zip (ps.drop 1)) (fun z v _ => v = .bl (!isField z.1 && !isField z.2)) (fun _ _ _ _ _ h => h) (by rw [List.length_zip]; have := hs.1; omega) (y_Z C B ?_)
        walk_at "go"
        refine slTv C (by walk_at "sqt") (fun p H2 x2 hq2 => ?_)
        rw [cut1, ← List.map_drop] at hq2
        refine ⟨a, p, _, _, rfl, rfl, .inr ⟨sqt_ex (Ex.trans x' x2) hq, hq2⟩, fun z u => u = (.str z.1, .str z.2), ?_, fun z v1 v2 hz e H3 x3 X3 C3 => ?_, fun D3 ys3 H3 nD3 x3 hD3 hp3 => ?_⟩
        · rw [zip_strs]
          exact paired_self (R := fun (z : Str × Str) u => u = (V.str z.1, V.str z.2)) (fun _ => rfl) _
        · obtain ⟨rfl, rfl⟩ := Prod.mk.inj e
          show wE X3 _ [some (.ref a), none, some (.str z.1), some (.str z.2)] H3 _
          walk_at "gs"
          all_goals refine ⟨by walk_at "ex", ?_⟩
          all_goals dsimp only
          · rename_i e1 _ _
            have e1' : isField z.1 = false := e1
            rw [e1']
            rfl
          · rename_i e1
            have e1' : isField z.1 = true := e1
            rw [e1']
            rfl
        · rw [paired_eq (f := fun (z : Str × Str) => V.bl (!isField z.1 && !isField z.2)) (fun _ _ q => q) hp3] at hD3
          refine a_nil (c_any C (bs := (ps.zip (ps.drop 1)).map fun z => !isField z.1 && !isField z.2) (SqL.of (by rw [hD3, List.map_map]; rfl)) ?_)
          walk_at "go"
          refine q.go ?_ (by walk_at "ex")
          rw [List.any_map]
          have l1 : 1 ≤ ps.length := by omega
          have l2 : ps.length ≤ 7 := by omega
          simp only [isPat, e', l1, l2, decide_true, Bool.true_and]
          rfl
  · refine q.go ?_ (by walk_at "ex")
    simp [isPat]
    omega
theorem sc_need_pattern : FnScope ["value"] ["value"] (defScope t_need_pattern) := ⟨rfl, rfl, rfl, by decide +kernel, rfl, by decide +kernel, by decide +kernel⟩
theorem c_need_pattern {f : Addr} {fd : FuncData} (F : Def K mg "need_pattern" t_need_pattern f fd) (b : Binds K fd ["value"] []) (c1 : Cal P w K mg base 2 "is_pattern" (sp_is_pattern K)) : Cal P w K mg base 3 "need_pattern" (sp_need_pattern K) := by
  refine cal_of _ F b sc_need_pattern (fun vs H Q E h => by obtain ⟨_, _, rfl, _⟩ := h; rfl) fun X H vs Q E C h => ?_
  obtain ⟨v, ps, rfl, hd, hs, hv, q⟩ := h
  show wSs X _ _ _ _ _ [some v] H
  refine ss_one ?_
  walk_at "gs"
  all_goals first | (exfalso; simp_all; done) | exact q _ (by walk_at "ex")
end

section
variable {P : Program} {w : World} {K : PySem.W.Frag} {mg : Str → Option Value} {base : Heap}
theorem sc_table : FnScope ["pattern", "span", "found", "date", "text"] ["pattern", "span"] (defScope t_table) := ⟨rfl, rfl, rfl, by decide +kernel, rfl, by decide +kernel, by decide +kernel⟩
theorem c_table {f : Addr} {fd : FuncData} (F : Def K mg "table" t_table f fd) (b : Binds K fd ["pattern", "span"] []) (c1 : Cal P w K mg base 7 "written" (sp_written K)) (c2 : Cal P w K mg base 3 "dates_in" (sp_dates_in K)) : Cal P w K mg base 8 "table" (sp_table K) := by
  refine cal_of _ F b sc_table (fun vs H Q E h => by obtain ⟨_, _, _, _, _, rfl, _⟩ := h; rfl) fun X H vs Q E C h => ?_
  obtain ⟨v, ps, u, y0, y1, rfl, hp, hs, hd, hsp, q⟩ := h
  show wSs X _ _ _ _ _ [some v, some u, none, none, none] H
  refine ss_cons ?_
  walk_at "go"
  rename_i dd nd
  refine s_forL C ?_
  walk_at "go"
  rename_i p0 H1 xs np x1 hp0 hds
  have hdd1 : H1 dd = some (.dK []) := x1 _ _ upd_same
  have xH1 : Ex H H1 := Ex.trans (Ex.new nd) x1
  have hmem := fun d hd' => mem_dates hsp (d := d) hd'
  have hdl := datesIn_len y0 y1 hsp
  refine ⟨p0, xs, rfl, fun n σ' H' => ∃ o3 o4 kvs, σ' = [some v, some u, some (.ref dd), o3, o4] ∧ Bt dd H1 H' ∧ H' dd = some (.dK kvs) ∧ TblV K H' (tblF (wr ps) ((datesIn y0 y1).take n)) kvs ∧ (kvs.map (·.2)).Nodup ∧ (∀ l, (V.ref l) ∈ kvs.map (·.2) → H1 l = none), ⟨none, none, [], rfl, Bt.of (Ex.refl _), hdd1, .nil, List.nodup_nil, by simp⟩, fun n σ' H' hP => ?_, fun n x σ' H' hx hP => ?_, fun σ' H' hP => ?_⟩
  · obtain ⟨o3, o4, kvs, rfl, hb, hdd, htb, hnd, hfr⟩ := hP
    exact SqL.of (hb _ _ (fun z => by rw [z, hdd1] at hp0; cases hp0) hp0)
  · obtain ⟨o3, o4, kvs, rfl, hb, hdd, htb, hnd, hfr⟩ := hP
    obtain ⟨d, hdn, hdv⟩ := paired_ix hds hx
    have hdv' : DateV K H' d x := hdv.tk (hb.tkd hdd1)
    have hok := okD_of (hmem d (List.mem_of_getElem? hdn))
    have hx' : Ex H H' := hb.ex xH1 nd
    have htake : (datesIn y0 y1).take (n + 1) = (datesIn y0 y1).take n ++ [d] := by rw [List.take_add_one, hdn]; rfl
    have hkl : kvs.length ≤ 4464 := by
      rw [htb.len]
      refine Nat.le_trans (tblF_len _ _) ?_
      rw [List.length_take]
      omega
    walk_at "go"
    rename_i H2 x2
    have hdd2 := x2 _ _ hdd
    refine o_dNotIn C (Rd.of hdd2) ?_
    rcases htb.get (k := wr ps d) with ⟨hn, htn⟩ | ⟨ds, l, ys, htn, hn, hl, hys⟩
    · rw [hn, Option.isSome_none]
      walk_at "go"
      rename_i l0 nl0
      refine g_dput C ?_
      walk_at "go"
      have hl0d : dd ≠ l0 := ne_of_none hdd2 nl0
      have hdd3 : upd H2 l0 (.lst []) dd = some (.dK kvs) := by rw [upd_ne hl0d]; exact hdd2
      refine ⟨dd, kvs, wr ps d, rfl, rfl, hdd3, sz5' (by omega), ?_⟩
      walk_at "go"
      refine m_app (e_dget C ?_)
      walk_at "go"
      refine ⟨dd, _, wr ps d, .ref l0, rfl, rfl, Rd.of upd_same, by rw [valV_put, if_pos rfl], ?_⟩
      refine ⟨l0, [], rfl, by rw [upd_ne hl0d.symm, upd_same], ?_⟩
      walk_at "go"
      refine ⟨[], by rw [upd_ne hl0d.symm, upd_same], by decide, ?_⟩
      walk_at "go"
      have hput : putK kvs (Sum.inr (wr ps d) : Key) (.ref l0) = kvs ++ [(Sum.inr (wr ps d), .ref l0)] := putK_new _ hn
      have hl01 : H1 l0 = none := by
        cases e : H1 l0 with
        | none => rfl
        | some o => rw [x2 _ _ (hb _ _ hl0d.symm e)] at nl0; cases nl0
      have tk3 : Tk H2 (upd (upd (upd H2 l0 (.lst [])) dd (.dK (putK kvs (Sum.inr (wr ps d) : Key) (.ref l0)))) l0 (.lst ([] ++ [x]))) := Tk.trans (Tk.of (Ex.new nl0)) (Tk.trans (Tk.dk hdd3) (Tk.lst (by rw [upd_ne hl0d.symm, upd_same])))
      refine ⟨_, _, _, rfl, ?_, by rw [upd_ne hl0d, upd_same], ?_, ?_, ?_⟩
      · intro c o hc hco
        have hcl : c ≠ l0 := fun z => by rw [z, hl01] at hco; cases hco
        rw [upd_ne hcl, upd_ne hc, upd_ne hcl]
        exact x2 _ _ (hb _ _ hc hco)
      · rw [htake, tblF_snoc, tAdd_new htn, hput]
        refine paired_app ?_ (.cons ⟨rfl, l0, [] ++ [x], rfl, upd_same, .cons ((hdv'.tk (Tk.of x2)).tk (by rw [← hput]; exact tk3)) .nil⟩ .nil)
        refine Paired.mapP (htb.ex x2) fun e kv hq => ?_
        obtain ⟨e1, l, zs, e2, e3, e4⟩ := hq
        have hll : l ≠ l0 := ne_of_none e3 nl0
        have hld : l ≠ dd := fun z => by rw [z, hdd2] at e3; cases e3
        refine ⟨e1, l, zs, e2, ?_, e4.tk (by rw [← hput]; exact tk3)⟩
        rw [upd_ne hll, upd_ne hld, upd_ne hll]
        exact e3
      · rw [hput, List.map_append]
        refine nd_snoc hnd fun hm => ?_
        have := hm
        obtain ⟨kv, hkv, ekv⟩ := List.mem_map.mp hm
        obtain ⟨n2, hn2⟩ := List.getElem?_of_mem hkv
        obtain ⟨e, he, e1, l, zs, e2, e3, e4⟩ := paired_ix' (htb.ex x2) hn2
        have : l = l0 := by rw [ekv] at e2; injection e2 with e2; exact e2.symm
        rw [this, nl0] at e3
        cases e3
      · intro l hl
        rw [hput, List.map_append, List.mem_append] at hl
        rcases hl with hl | hl
        · exact hfr l hl
        · have : l = l0 := by simpa using hl
          rw [this]
          exact hl01
    · rw [hn, Option.isSome_some]
      walk_at "go"
      refine m_app (e_dget C ?_)
      walk_at "go"
      have hl2 := x2 _ _ hl
      have hlm : V.ref l ∈ kvs.map (·.2) := TblV.grow.valV_mem hn
      have hl1 := hfr l hlm
      have hld : dd ≠ l := fun z => by rw [← z, hdd2] at hl2; cases hl2
      have hyl : ys.length ≤ 4464 := by
        rw [hys.len]
        have h1 := (tGet_tbl (wr ps) (wr ps d) ((datesIn y0 y1).take n)).1
        rw [htn] at h1
        have h2 : ds = _ := h1
        rw [h2]
        refine Nat.le_trans (List.length_filter_le _ _) ?_
        rw [List.length_take]
        omega
      refine ⟨dd, kvs, wr ps d, .ref l, rfl, rfl, Rd.of hdd2, hn, l, ys, rfl, hl2, ?_⟩
      walk_at "go"
      refine ⟨ys, hl2, sz5' (by omega), ?_⟩
      walk_at "go"
      refine ⟨_, _, kvs, rfl, ?_, by rw [upd_ne hld]; exact hdd2, ?_, hnd, hfr⟩
      · intro c o hc hco
        have hcl : c ≠ l := fun z => by rw [z, hl1] at hco; cases hco
        rw [upd_ne hcl]
        exact x2 _ _ (hb _ _ hc hco)
      · rw [htake, tblF_snoc]
        exact TblV.grow hl2 (hdv'.tk (Tk.of x2)) (htb.ex x2) hnd hn
  · obtain ⟨o3, o4, kvs, rfl, hb, hdd, htb, hnd, hfr⟩ := hP
    walk_at "go"
    rw [hds.len, List.take_length] at htb
    exact q dd H' kvs nd (hb.ex xH1 nd) hdd htb ⟨hnd, fun l hl => xH1.back (hfr l hl)⟩
theorem sc_readings : FnScope ["pattern", "span", "text"] ["pattern", "span", "text"] (defScope t_readings) := ⟨rfl, rfl, rfl, by decide +kernel, rfl, by decide +kernel, by decide +kernel⟩
theorem c_readings {f : Addr} {fd : FuncData} (F : Def K mg "readings" t_readings f fd) (b : Binds K fd ["pattern", "span", "text"] []) (c1 : Cal P w K mg base 3 "need_pattern" (sp_need_pattern K)) (c2 : Cal P w K mg base 3 "need_span" (sp_need_span K)) (c3 : Cal P w K mg base 1 "need_text" sp_need_text) (c4 : Cal P w K mg base 8 "table" (sp_table K)) : Cal P w K mg base 9 "readings" (sp_readings K) := by
  refine cal_of _ F b sc_readings (fun vs H Q E h => by obtain ⟨_, _, _, _, _, _, rfl, _⟩ := h; rfl) fun X H vs Q E C h => ?_
  obtain ⟨v, ps, u, y0, y1, t, rfl, hp, hs, hi, hd, hsp, q⟩ := h
  show wSs X _ _ _ _ _ [some v, some u, some (.str t)] H
  refine ss_cons ?_
  walk_at "go"
  refine e_dget2 C ?_
  walk_at "go"
  rename_i H1 x1 H2 x2 H3 x3 dd H4 kvs nd x4 hdd htb hfr
  refine ⟨dd, kvs, rfl, Rd.of hdd, ?_⟩
  walk_at "go"
  rename_i l0 nl0
  have hl0d : dd ≠ l0 := ne_of_none hdd nl0
  refine ⟨kvs, t, rfl, Rd.of (by rw [upd_ne hl0d]; exact hdd), ?_⟩
  have xx : Ex H H4 := Ex.trans x1 (Ex.trans x2 (Ex.trans x3 x4))
  have hget := (tGet_tbl (wr ps) t (datesIn y0 y1)).1
  rcases htb.get (k := t) with ⟨hn, htn⟩ | ⟨ds, l, ys, htn, hn, hl, hys⟩
  · rw [hn]
    rw [htn] at hget
    refine q l0 _ [] (xx.back nl0) (Ex.trans xx (Ex.new nl0)) upd_same ?_
    unfold reads
    rw [← hget]
    exact .nil
  · rw [hn]
    rw [htn] at hget
    have hll : l ≠ l0 := ne_of_none hl nl0
    have hr : reads ps y0 y1 t = ds := hget.symm
    refine q l _ ys ?_ (Ex.trans xx (Ex.new nl0)) (by rw [upd_ne hll]; exact hl) ?_
    · exact (Ex.trans x1 (Ex.trans x2 x3)).back (hfr.2 l (TblV.grow.valV_mem hn))
    · rw [hr]
      exact hys.tk (Tk.of (Ex.new nl0))
end

section
variable {P : Program} {w : World} {K : PySem.W.Frag} {mg : Str → Option Value} {base : Heap}
theorem sc_law_draw : FnScope ["script", "town", "many", "one", "at", "mixed"] ["script", "town", "many"] (defScope t__law_draw) := ⟨rfl, rfl, rfl, by decide +kernel, rfl, by decide +kernel, by decide +kernel⟩
theorem c_law_draw {f : Addr} {fd : FuncData} (F : Def K mg "_law_draw" t__law_draw f fd) (b : Binds K fd ["script", "town", "many"] []) (B : Bn mg) : Cal P w K mg base 1 "_law_draw" (sp_draw K) := by
  refine cal_of _ F b sc_law_draw (fun vs H Q E h => by obtain ⟨_, _, _, _, rfl, _⟩ := h; rfl) fun X H vs Q E C h => ?_
  obtain ⟨a, ns, t, m, rfl, ⟨hfz, hlen, p, r, hr, hp⟩, hm, q⟩ := h
  show wSs X _ _ _ _ _ [some (.ref a), some (.ref t), some (.int m), none, none, none] H
  refine ss_cons ?_
  walk_at "gs"
  · refine g_sub ?_
    walk_at "go"
    refine ⟨t, _, 1, 1, rfl, rfl, hr, rfl, ?_⟩
    walk_at "go"
    exact q _ _ (Int.emod_nonneg _ (by omega)) (Int.emod_lt_of_pos _ hm.1) Bt.upd ⟨p, r / m, upd_same, hp⟩
  · refine s_augL ?_
    walk_at "go"
    refine ⟨t, _, 0, _, rfl, rfl, hr, rfl, ?_⟩
    walk_at "go"
    refine o_iadd ⟨_, 0, 0, rfl, hr, rfl, ?_⟩
    have hr1 : upd H t (.lst ([V.int p, V.int r].set 0 (V.int (p + 1)))) t = some (.lst [.int (p + 1), .int r]) := upd_same
    have hfz1 := hfz.tk (Tk.lst hr (o := .lst ([V.int p, V.int r].set 0 (V.int (p + 1)))))
    have hb1 : Bt t H (upd H t (.lst ([V.int p, V.int r].set 0 (V.int (p + 1))))) := Bt.upd
    generalize upd H t (.lst ([V.int p, V.int r].set 0 (V.int (p + 1)))) = H1 at hr1 hfz1 hb1
    walk_at "go"
    rename_i l0 nl0
    have x2 : Ex H1 (upd H1 l0 (.lst [])) := Ex.new nl0
    have hl0 : (upd H1 l0 (.lst [])) l0 = some (.lst []) := upd_same
    generalize upd H1 l0 (.lst []) = H2 at x2 hl0
    have hfz2 := hfz1.tk (Tk.of x2)
    have hr2 := x2 _ _ hr1
    have hb2 : Bt t H H2 := hb1.trans (Bt.of x2)
    have ht2 : TownAt H2 t := ⟨p + 1, r, hr2, by omega⟩
    refine o_eqD C (.lst hfz2.sq (dpA_ints ns)) (.lst (SqL.of hl0) .nil) (sh_ok (sh_list (shA_map fun i => sh_int 0 i))) (sh_ok (sh_list (shA_nil 0))) ?_
    cases ns with
    | nil =>
      show ∃ k, V.bl true = .bl k ∧ _
      walk_at "go"
      exact q _ _ (Int.emod_nonneg _ (by omega)) (Int.emod_lt_of_pos _ hm.1) hb2 ht2
    | cons n0 ns =>
      show ∃ k, V.bl false = .bl k ∧ _
      walk_at "go"
      refine c_lenL C hfz2.sq ?_
      rw [List.length_map]
      walk_at "gs"
      · refine ixL C hfz2.sq (atI_getD 0 hp (by assumption)) ?_
        walk_at "go"
        refine o_pow ?_ ⟨by decide, by decide, by decide⟩
        walk_at "gs"
        · refine ixL C hfz2.sq (atI_getD 0 hp (by assumption)) ?_
          walk_at "go"
          refine o_pow ?_ ⟨by decide, by decide, by decide⟩
          walk_at "go"
          refine o_pow ?_ ⟨by decide, by decide, by decide⟩
          refine o_mulW ?_ (wide_mul (a := 200) (b := 200) (by decide +kernel) (by decide +kernel) (by decide) (by decide) (by decide))
          refine o_mod ?_ (by decide +kernel)
          refine g_sub ?_
          walk_at "go"
          refine ⟨t, _, 1, 1, rfl, rfl, hr2, rfl, ?_⟩
          walk_at "go"
          refine ixL C (hfz2.tk (Tk.lst hr2)).sq (atI_getD 0 hp (by assumption)) ?_
          walk_at "go"
          exact q _ _ (Int.emod_nonneg _ (by omega)) (Int.emod_lt_of_pos _ hm.1) (hb2.trans Bt.upd) ⟨_, _, upd_same, by omega⟩
        · have hz : (0 : Int) < ((n0 :: ns).length : Int) := by simp
          refine c_lenL C hfz2.sq ?_
          rw [List.length_map]
          refine o_mod ?_ hz
          refine ixL C hfz2.sq (atI_getD 0 (Int.emod_nonneg _ (by omega)) (Int.emod_lt_of_pos _ hz)) ?_
          walk_at "go"
          refine o_pow ?_ ⟨by decide, by decide, by omega⟩
          walk_at "go"
          exact q _ _ (Int.emod_nonneg _ (by omega)) (Int.emod_lt_of_pos _ hm.1) hb2 ht2
      · have hz : (0 : Int) < ((n0 :: ns).length : Int) := by simp
        refine c_lenL C hfz2.sq ?_
        rw [List.length_map]
        refine o_mod ?_ hz
        refine ixL C hfz2.sq (atI_getD 0 (Int.emod_nonneg _ (by omega)) (Int.emod_lt_of_pos _ hz)) ?_
        walk_at "go"
        refine o_pow ?_ ⟨by decide, by decide, by omega⟩
        walk_at "go"
        exact q _ _ (Int.emod_nonneg _ (by omega)) (Int.emod_lt_of_pos _ hm.1) hb2 ht2
theorem sc_law_pick : FnScope ["script", "town", "some"] ["script", "town", "some"] (defScope t__law_pick) := ⟨rfl, rfl, rfl, by decide +kernel, rfl, by decide +kernel, by decide +kernel⟩
theorem c_law_pick {f : Addr} {fd : FuncData} (F : Def K mg "_law_pick" t__law_pick f fd) (b : Binds K fd ["script", "town", "some"] []) (B : Bn mg) (c1 : Cal P w K mg base 1 "_law_draw" (sp_draw K)) : Cal P w K mg base 2 "_law_pick" (sp_pick K) := by
  refine cal_of _ F b sc_law_pick (fun vs H Q E h => by obtain ⟨_, _, _, _, _, rfl, _⟩ := h; rfl) fun X H vs Q E C h => ?_
  obtain ⟨a, ns, t, s, xs, rfl, h0, hs, hl, hne, q⟩ := h
  have hix : ∀ k : Int, 0 ≤ k → k < xs.length → ∃ v, atI xs k = some v ∧ xs[k.toNat]? = some v := fun k h1 h2 => by
    have hk : k.toNat < xs.length := by omega
    exact ⟨xs[k.toNat], at_of (j := k.toNat) (by omega) (List.getElem?_eq_getElem hk), List.getElem?_eq_getElem hk⟩
  show wSs X _ _ _ _ _ [some (.ref a), some (.ref t), some (.ref s)] H
  refine ss_one ?_
  rcases hs with hs | hs
  · walk_at "go"
    refine c_lenL C hs ?_
    walk_at "go"
    refine u_draw h0 (by omega) fun k H' h1 h2 hb ht => ?_
    have hs' : SqL K H' s xs := by
      rcases hs with (hs | ⟨o, hs⟩) | hs
      · exact .inl (.inl (hb _ _ hne hs))
      · exact .inl (.inr ⟨o, hb _ _ hne hs⟩)
      · exact .inr hs
    obtain ⟨v, hv, hv2⟩ := hix k h1 h2
    exact ixL C hs' hv (q _ v H' hv2 hb ht)
  · walk_at "go"
    refine u_draw h0 (by omega) fun k H' h1 h2 hb ht => ?_
    obtain ⟨v, hv, hv2⟩ := hix k h1 h2
    exact ixT C (sqt_tk (h0.tk hb) hs) hv (q _ v H' hv2 hb ht)
end

section
variable {P : Program} {w : World} {K : PySem.W.Frag} {mg : Str → Option Value} {base : Heap}
theorem ne_town {H : Hp} {s t : Addr} (ns0 : H s = none) (ht : TownAt H t) : s ≠ t := fun z => by
  obtain ⟨p, r, h1, _⟩ := ht
  rw [← z, ns0] at h1
  cases h1
theorem bt_none {H H' : Hp} {p t : Addr} (hb : Bt t H H') (ht : TownAt H' t) (np : H' p = none) : H p = none := by
  cases e : H p with
  | none => rfl
  | some o =>
    by_cases hpt : p = t
    · obtain ⟨_, _, h1, _⟩ := ht
      rw [← hpt, np] at h1
      cases h1
    · rw [hb _ _ hpt e] at np
      cases np
theorem sc_law_days : FnScope ["year", "leap"] ["year"] (defScope t__law_days) := ⟨rfl, rfl, rfl, by decide +kernel, rfl, by decide +kernel, by decide +kernel⟩
theorem c_law_days {f : Addr} {fd : FuncData} (F : Def K mg "_law_days" t__law_days f fd) (b : Binds K fd ["year"] []) : Cal P w K mg base 1 "_law_days" sp_ldays := by
  refine cal_of _ F b sc_law_days (fun vs H Q E h => by obtain ⟨_, rfl, _⟩ := h; rfl) fun X H vs Q E C h => ?_
  obtain ⟨y, rfl, q⟩ := h
  show wSs X _ _ _ _ _ [some (.int y), none] H
  refine ss_cons ?_
  walk_at "gs"
  all_goals first | (exfalso; simp_all; done) | skip
  all_goals refine q _ _ (by assumption) (Ex.new (by assumption)) ?_
  all_goals rw [upd_same]
  all_goals simp_all [lawDays, isLong]
theorem lwd_sum {y m : Int} (h1 : 1 ≤ m) (h2 : m ≤ 12) : cutV ((lawDays y).map V.int) none (some (m - 1)) = ((lawDays y).take (m - 1).toNat).map V.int := by
  unfold cutV
  have e : HT.sIx ((lawDays y).map V.int).length ((lawDays y).map V.int).length (some (m - 1)) = (m - 1).toNat := by
    have e1 : m - 1 = (((m - 1).toNat : Nat) : Int) := by omega
    rw [e1, HT.sIx_nat]
    show min _ 12 = _
    omega
  rw [HT.sIx_none, e, List.drop_zero, Nat.sub_zero, List.map_take]
theorem sc_law_weekday : FnScope ["date", "years", "days"] ["date"] (defScope t__law_weekday) := ⟨rfl, rfl, rfl, by decide +kernel, rfl, by decide +kernel, by decide +kernel⟩
theorem c_law_weekday {f : Addr} {fd : FuncData} (F : Def K mg "_law_weekday" t__law_weekday f fd) (b : Binds K fd ["date"] []) (B : Bn mg) (c1 : Cal P w K mg base 1 "_law_days" sp_ldays) : Cal P w K mg base 2 "_law_weekday" (sp_lwd K) := by
  refine cal_of _ F b sc_law_weekday (fun vs H Q E h => by obtain ⟨_, _, rfl, _⟩ := h; rfl) fun X H vs Q E C h => ?_
  obtain ⟨_, ⟨y, m, d⟩, rfl, hd, hok, q⟩ := h
  obtain ⟨a, rfl, hq⟩ := id hd
  dsimp only at hq
  show wSs X _ _ _ _ _ [some (.ref a), none, none] H
  refine ss_cons ?_
  walk_at "go"
  rename_i p H1 np x1 hp
  refine slL C (SqL.of hp) fun p2 np2 => ?_
  rw [lwd_sum hok.2.1.1 hok.2.1.2]
  walk_at "go"
  refine c_sum C (SqL.of upd_same) ?_
  walk_at "go"
  refine q.go ?_ (by walk_at "ex")
  rw [← lwd_eq hok]
  rfl
theorem sum_snoc (y : Int) (n : Nat) : ((List.range (n + 1)).map fun (i : Nat) => mlen y (1 + (i : Int))).sum = ((List.range n).map fun (i : Nat) => mlen y (1 + (i : Int))).sum + mlen y (1 + (n : Int)) := by
  rw [List.range_succ, List.map_append, List.sum_append]
  simp
theorem sc_law_dates : FnScope ["span", "found", "year", "number", "month", "many", "day"] ["span"] (defScope t__law_dates) := ⟨rfl, rfl, rfl, by decide +kernel, rfl, by decide +kernel, by decide +kernel⟩
theorem c_law_dates {f : Addr} {fd : FuncData} (F : Def K mg "_law_dates" t__law_dates f fd) (b : Binds K fd ["span"] []) (B : Bn mg) (c1 : Cal P w K mg base 1 "_law_days" sp_ldays) : Cal P w K mg base 2 "_law_dates" (sp_ldates K) := by
  refine cal_of _ F b sc_law_dates (fun vs H Q E h => by obtain ⟨_, _, _, rfl, _⟩ := h; rfl) fun X H vs Q E C h => ?_
  obtain ⟨_, y0, y1, rfl, ⟨a, rfl, hq⟩, hsp, q⟩ := h
  have hb := isSp_b hsp
  show wSs X _ _ _ _ _ [some (.ref a), none, none, none, none, none, none] H
  refine ss_cons ?_
  walk_at "go"
  rename_i p np
  refine s_forR2 C B ?_
  walk_at "go"
  refine ⟨y0, y1 + 1, rfl, rfl, by omega, fun n σ' H' => ∃ o2 o3 o4 o5 o6 xs, σ' = [some (.ref a), some (.ref p), o2, o3, o4, o5, o6] ∧ Ex H H' ∧ H' p = some (.lst xs) ∧ RowsV K H' (((List.range n).flatMap fun (i : Nat) => yearDays (y0 + (i : Int))).map fun d => (d, piy d)) xs, ⟨none, none, none, none, none, [], rfl, Ex.new np, upd_same, .nil⟩, fun n σ' H1 hn hP => ?_, fun σ' H1 hP => ?_⟩
  · obtain ⟨o2, o3, o4, o5, o6, xs, rfl, x1, hp, hds⟩ := hP
    walk_at "go"
    refine s_for2 C (i_En C B.n_enumerate ?_)
    walk_at "go"
    rename_i p2 H2 np2 x2 hp2
    have hpp : p ≠ p2 := ne_of_none hp np2
    refine ⟨p2, _, rfl, SqL.of hp2, fun J wk => ⟨_, _, _, wk, fun n2 σ' H' => ∃ o4 o5 o6 ys, σ' = [some (.ref a), some (.ref p), some (.int (y0 + (n : Int))), some (.int ((List.range n2).map fun (i : Nat) => mlen (y0 + (n : Int)) (1 + (i : Int))).sum), o4, o5, o6] ∧ Ex H H' ∧ H' p2 = some (.lst ((lawDays (y0 + (n : Int))).map V.int)) ∧ H' p = some (.lst ys) ∧ RowsV K H' ((((List.range n).flatMap fun (i : Nat) => yearDays (y0 + (i : Int))) ++ ((List.range n2).flatMap fun (i : Nat) => monthDays (y0 + (n : Int)) (1 + (i : Int)))).map fun d => (d, piy d)) ys, ⟨o4, o5, o6, xs, rfl, Ex.trans x1 x2, hp2, x2 _ _ hp, by simpa using hds.tk (Tk.of x2)⟩, fun n2 σ' H' hP => ?_, fun n2 v σ' H' H3 hn2 hP hY => ?_, fun σ' H' hP => ?_⟩⟩
    · obtain ⟨o4, o5, o6, ys, rfl, x3, hp3, hpy, hrs⟩ := hP
      exact SqL.of hp3
    · obtain ⟨o4, o5, o6, ys, rfl, x3, hp3, hpy, hrs⟩ := hP
      obtain ⟨T, v1, v2, rfl, nT, rfl, e1, e2⟩ := hY
      have e1 : v1 = .int (n2 : Int) := (Option.some.inj e1).symm
      subst e1
      have hn12 : n2 < 12 := by rw [List.length_map] at hn2; exact hn2
      have e2 : v2 = .int (mlen (y0 + (n : Int)) (1 + (n2 : Int))) := by
        dsimp only at e2
        rw [lawDays_eq, List.map_map, List.getElem?_map, List.getElem?_range hn12] at e2
        exact (Option.some.inj e2).symm
      subst e2
      have hml := mlen_bd (y0 + (n : Int)) (1 + (n2 : Int))
      refine ⟨T, _, _, rfl, SqT.of upd_same, ?_⟩
      walk_at "go"
      refine s_forR1 C B ?_
      walk_at "go"
      have xT : Ex H' (upd H' T (.tup [V.int (n2 : Int), V.int (mlen (y0 + (n : Int)) (1 + (n2 : Int)))])) := Ex.new nT
      refine ⟨by omega, fun n3 σ' H' => ∃ o6 zs, σ' = [some (.ref a), some (.ref p), some (.int (y0 + (n : Int))), some (.int (((List.range n2).map fun (i : Nat) => mlen (y0 + (n : Int)) (1 + (i : Int))).sum + (n3 : Int))), some (.int (n2 : Int)), some (.int (mlen (y0 + (n : Int)) (1 + (n2 : Int)))), o6] ∧ Ex H H' ∧ H' p2 = some (.lst ((lawDays (y0 + (n : Int))).map V.int)) ∧ H' p = some (.lst zs) ∧ RowsV K H' ((((List.range n).flatMap fun (i : Nat) => yearDays (y0 + (i : Int))) ++ ((List.range n2).flatMap fun (i : Nat) => monthDays (y0 + (n : Int)) (1 + (i : Int))) ++ (monthDays (y0 + (n : Int)) (1 + (n2 : Int))).take n3).map fun d => (d, piy d)) zs, ⟨o6, ys, by simp, Ex.trans x3 xT, xT _ _ hp3, xT _ _ hpy, by simpa using hrs.tk (Tk.of xT)⟩, fun n3 σ' H4 hn3 hP => ?_, fun σ' H4 hP => ?_⟩
      · obtain ⟨o6, zs, rfl, x4, hp4, hpz, hrz⟩ := hP
        walk_at "go"
        refine m_app ?_
        walk_at "go"
        refine ⟨p, zs, rfl, hpz, ?_⟩
        walk_at "go"
        rename_i t1 nt1 t2 nt2
        have xx := fun o => Ex.trans (Ex.new (o := HO.tup [V.int (y0 + (n : Int)), V.int ((n2 : Int) + 1), V.int ((n3 : Int) + 1)]) nt1) (Ex.new (o := o) nt2)
        have hzl := hrz.len
        have l1 := flatMap_len (fun (i : Nat) => yearDays_len (y0 + (i : Int))) (List.range n)
        have l2 := flatMap_len (fun (i : Nat) => monthDays_len (y0 + (n : Int)) (1 + (i : Int))) (List.range n2)
        have l3 := monthDays_len (y0 + (n : Int)) (1 + (n2 : Int))
        rw [List.length_range] at l1 l2
        rw [List.length_map, List.length_append, List.length_append, List.length_take] at hzl
        refine ⟨zs, xx _ _ _ hpz, sz5' (by omega), ?_⟩
        walk_at "go"
        have hp2t1 : p2 ≠ t1 := ne_of_none hp4 nt1
        refine ⟨some (.int (n3 : Int)), _, ?_, Ex.mut (Ex.trans x4 (xx _)) np, ?_, upd_same, ?_⟩
        · have e : ((List.range n2).map fun (i : Nat) => mlen (y0 + (n : Int)) (1 + (i : Int))).sum + ((n3 + 1 : Nat) : Int) = ((List.range n2).map fun (i : Nat) => mlen (y0 + (n : Int)) (1 + (i : Int))).sum + (n3 : Int) + 1 := by omega
          rw [e]
        · rw [upd_ne hpp.symm]
          exact xx _ _ _ hp4
        · have hmd : (monthDays (y0 + (n : Int)) (1 + (n2 : Int)))[n3]? = some (y0 + (n : Int), 1 + (n2 : Int), 1 + (n3 : Int)) := by
            unfold monthDays
            rw [List.getElem?_map, List.getElem?_range hn3]
            rfl
          rw [List.take_add_one, hmd, ← List.append_assoc, List.map_append]
          have hpz4 : H4 p = some (.lst zs) := hpz
          have tk5 := fun o => Tk.lst (xx o _ _ hpz) (o := .lst (zs ++ [V.ref t2]))
          refine paired_app (hrz.tk (Tk.trans (Tk.of (xx _)) (tk5 _))) (.cons ?_ .nil)
          refine ⟨t2, .ref t1, rfl, sqt_tk (tk5 _) (SqT.of ?_), t1, rfl, sqt_tk (tk5 _) (SqT.of ?_)⟩
          · rw [upd_same]
            have e : piy (y0 + (n : Int), 1 + (n2 : Int), 1 + (n3 : Int)) = ((List.range n2).map fun (i : Nat) => mlen (y0 + (n : Int)) (1 + (i : Int))).sum + (n3 : Int) + 1 := by
              unfold piy
              dsimp only
              rw [show ((1 + (n2 : Int)) - 1).toNat = n2 by omega]
              omega
            dsimp only
            rw [e]
          · rw [upd_ne (ne_of_none upd_same nt2), upd_same]
            rw [Int.add_comm (n2 : Int) 1, Int.add_comm (n3 : Int) 1]
      · obtain ⟨o6, zs, rfl, x4, hp4, hpz, hrz⟩ := hP
        walk_at "go"
        refine ⟨some (.int (n2 : Int)), some (.int (mlen (y0 + (n : Int)) (1 + (n2 : Int)))), o6, zs, ?_, x4, hp4, hpz, ?_⟩
        · rw [sum_snoc, Int.toNat_of_nonneg (by omega)]
        · rw [List.range_succ, List.flatMap_append]
          have ee : List.flatMap (fun (i : Nat) => monthDays (y0 + (n : Int)) (1 + (i : Int))) [n2] = monthDays (y0 + (n : Int)) (1 + (n2 : Int)) := by simp
          have et : (monthDays (y0 + (n : Int)) (1 + (n2 : Int))).take (mlen (y0 + (n : Int)) (1 + (n2 : Int))).toNat = monthDays (y0 + (n : Int)) (1 + (n2 : Int)) := by
            apply List.take_of_length_le
            unfold monthDays
            rw [List.length_map, List.length_range]
            exact Nat.le_refl _
          rw [ee, ← List.append_assoc]
          rw [et] at hrz
          exact hrz
    · obtain ⟨o4, o5, o6, ys, rfl, x3, hp3, hpy, hrs⟩ := hP
      walk_at "go"
      refine ⟨_, _, o4, o5, o6, ys, rfl, x3, hpy, ?_⟩
      rw [List.range_succ, List.flatMap_append]
      have ee : List.flatMap (fun (i : Nat) => yearDays (y0 + (i : Int))) [n] = yearDays (y0 + (n : Int)) := by simp
      rw [ee]
      exact hrs
  · obtain ⟨o2, o3, o4, o5, o6, xs, rfl, x1, hp, hds⟩ := hP
    walk_at "go"
    exact q p H1 xs np x1 hp hds
theorem sc_law_write : FnScope ["pattern", "date", "number", "text", "part", "at", "value", "digits"] ["pattern", "date", "number"] (defScope t__law_write) := ⟨rfl, rfl, rfl, by decide +kernel, rfl, by decide +kernel, by decide +kernel⟩
theorem c_law_write {f : Addr} {fd : FuncData} (F : Def K mg "_law_write" t__law_write f fd) (b : Binds K fd ["pattern", "date", "number"] []) (B : Bn mg) (c1 : Cal P w K mg base 2 "_law_weekday" (sp_lwd K)) : Cal P w K mg base 3 "_law_write" (sp_lwrite K) := by
  refine cal_of _ F b sc_law_write (fun vs H Q E h => by obtain ⟨_, _, _, _, rfl, _⟩ := h; rfl) fun X H vs Q E C h => ?_
  obtain ⟨a, ps, _, ⟨y, m, d⟩, rfl, hq, hpo, hs, hd, hok, q⟩ := h
  obtain ⟨ad, rfl, hqd⟩ := id hd
  dsimp only at hqd
  show wSs X _ _ _ _ _ [some (.ref a), some (.ref ad), some (.int (piy (y, m, d))), none, none, none, none, none] H
  refine ss_cons ?_
  walk_at "go"
  refine s_forLT C ⟨a, ps.map V.str, ⟨fun Q h => by walk_at "go"; exact h, hq⟩, fun n σ' H' => ∃ o4 o5 o6 o7, σ' = [some (.ref a), some (.ref ad), some (.int (piy (y, m, d))), some (.str (wr (ps.take n) (y, m, d))), o4, o5, o6, o7] ∧ Ex H H', ⟨none, none, none, none, rfl, Ex.refl _⟩, fun n σ' H' ⟨_, _, _, _, _, x⟩ => x, fun n v σ' H1 hv hP => ?_, fun σ' H1 hP => ?_⟩
  · obtain ⟨o4, o5, o6, o7, rfl, x1⟩ := hP
    obtain ⟨z, hz, rfl⟩ := paired_ix (paired_self (R := fun (z : Str) u => u = V.str z) (fun _ => rfl) ps) hv
    have hzm := List.mem_of_getElem? hz
    walk_at "g"
    refine ss_one ?_
    have htake : ps.take (n + 1) = ps.take n ++ [z] := by rw [List.take_add_one, hz]; rfl
    have hTl := wr_len hok (small_take hs n)
    refine wS_mono (nx := fun σ' H' => ∃ o5 o6 o7, σ' = [some (.ref a), some (.ref ad), some (.int (piy (y, m, d))), some (.str (wr (ps.take n) (y, m, d) ++ pc z (y, m, d))), some (.str z), o5, o6, o7] ∧ Ex H H') (fun σ' H' h => ?_) (fun _ _ h => h) (fun _ _ h => h.elim) (fun _ _ h => h.elim) (rt := Q) (bk := fun _ _ => False) (ct := fun _ _ => False) ?_
    · obtain ⟨o5, o6, o7, rfl, x⟩ := h
      rw [htake, wr_snoc]
      exact ⟨_, o5, o6, o7, rfl, x⟩
    generalize wr (ps.take n) (y, m, d) = T at hTl
    have hzl := hs.2 z hzm
    have hiv := ival_bd (p := z) hok
    have hpl := pc_len (p := z) hok hzl
    have hm12 := hok.2.1
    dsimp only at hm12
    rcases hpo z hzm with hf | ⟨hf, c, r, hc, hcn⟩
    · simp only [fields, List.mem_cons, List.not_mem_nil, or_false] at hf
      rcases hf with rfl | rfl | rfl | rfl | rfl | rfl | rfl | rfl | rfl | rfl
      · walk_at "gs"
        refine ixS (c := 68) (sz5 (by decide +kernel)) (by rfl) ?_
        walk_at "go"
        refine o_inS ?_
        walk_at "go"
        refine ite_dt (by decide +kernel) ?_
        walk_at "go"
        refine e_sindex C ?_
        walk_at "go"
        refine ixS (c := 68) (sz5 (by decide +kernel)) (by rfl) ?_
        refine ⟨_, 0, rfl, by decide +kernel, ?_⟩
        refine ixL C (SqL.of upd_same) rfl ?_
        walk_at "gs"
        have hb : 0 ≤ d ∧ d ≤ 9999 := ⟨hok.2.2.1, by have := hok.2.2.2; dsimp only at this; omega⟩
        have hl := numS_len hb.1 hb.2
        refine c_strI (log_sm hb.1 hb.2) ?_
        show wG X _ (.str (numS (d))) _ _ _
        walk_at "go"
        refine ite_dt (by decide +kernel) ?_
        walk_at "go"
        refine o_mulS ?_ (mulOk0 (by skip; omega) (by skip; omega))
        walk_at "go"
        refine o_addS ?_ (sz6 (by rw [mul0_len]; skip; omega))
        walk_at "go"
        refine o_addS ?_ (sz6 (by rw [app_len, mul0_len]; skip; omega))
        walk_at "go"
        rw [law_pad hb.1 hb.2 (k2 := 1) (by first | exact .inl rfl | exact .inr (by decide)) T]
        refine ⟨_, _, _, rfl, by walk_at "ex"⟩
      · walk_at "gs"
        refine ixS (c := 68) (sz5 (by decide +kernel)) (by rfl) ?_
        walk_at "go"
        refine o_inS ?_
        walk_at "go"
        refine ite_dt (by decide +kernel) ?_
        walk_at "go"
        refine e_sindex C ?_
        walk_at "go"
        refine ixS (c := 68) (sz5 (by decide +kernel)) (by rfl) ?_
        refine ⟨_, 0, rfl, by decide +kernel, ?_⟩
        refine ixL C (SqL.of upd_same) rfl ?_
        walk_at "gs"
        have hb : 0 ≤ d ∧ d ≤ 9999 := ⟨hok.2.2.1, by have := hok.2.2.2; dsimp only at this; omega⟩
        have hl := numS_len hb.1 hb.2
        refine c_strI (log_sm hb.1 hb.2) ?_
        show wG X _ (.str (numS (d))) _ _ _
        walk_at "go"
        refine ite_df (by decide +kernel) ?_
        walk_at "go"
        refine o_mulS ?_ (mulOk0 (by have e : (Str.ofString "DD").length = 2 := (by decide +kernel); omega) (by have e : (Str.ofString "DD").length = 2 := (by decide +kernel); omega))
        walk_at "go"
        refine o_addS ?_ (sz6 (by rw [mul0_len]; have e : (Str.ofString "DD").length = 2 := (by decide +kernel); omega))
        walk_at "go"
        refine o_addS ?_ (sz6 (by rw [app_len, mul0_len]; have e : (Str.ofString "DD").length = 2 := (by decide +kernel); omega))
        walk_at "go"
        rw [law_pad hb.1 hb.2 (k2 := ((Str.ofString "DD").length : Int)) (by first | exact .inl rfl | exact .inr (by decide)) T]
        refine ⟨_, _, _, rfl, by walk_at "ex"⟩
      · walk_at "gs"
        refine ixS (c := 77) (sz5 (by decide +kernel)) (by rfl) ?_
        walk_at "go"
        refine o_inS ?_
        walk_at "go"
        refine ite_dt (by decide +kernel) ?_
        walk_at "go"
        refine e_sindex C ?_
        walk_at "go"
        refine ixS (c := 77) (sz5 (by decide +kernel)) (by rfl) ?_
        refine ⟨_, 1, rfl, by decide +kernel, ?_⟩
        refine ixL C (SqL.of upd_same) rfl ?_
        walk_at "gs"
        have hb : 0 ≤ m ∧ m ≤ 9999 := by omega
        have hl := numS_len hb.1 hb.2
        refine c_strI (log_sm hb.1 hb.2) ?_
        show wG X _ (.str (numS (m))) _ _ _
        walk_at "go"
        refine ite_dt (by decide +kernel) ?_
        walk_at "go"
        refine o_mulS ?_ (mulOk0 (by skip; omega) (by skip; omega))
        walk_at "go"
        refine o_addS ?_ (sz6 (by rw [mul0_len]; skip; omega))
        walk_at "go"
        refine o_addS ?_ (sz6 (by rw [app_len, mul0_len]; skip; omega))
        walk_at "go"
        rw [law_pad hb.1 hb.2 (k2 := 1) (by first | exact .inl rfl | exact .inr (by decide)) T]
        refine ⟨_, _, _, rfl, by walk_at "ex"⟩
      · walk_at "gs"
        refine ixS (c := 77) (sz5 (by decide +kernel)) (by rfl) ?_
        walk_at "go"
        refine o_inS ?_
        walk_at "go"
        refine ite_dt (by decide +kernel) ?_
        walk_at "go"
        refine e_sindex C ?_
        walk_at "go"
        refine ixS (c := 77) (sz5 (by decide +kernel)) (by rfl) ?_
        refine ⟨_, 1, rfl, by decide +kernel, ?_⟩
        refine ixL C (SqL.of upd_same) rfl ?_
        walk_at "gs"
        have hb : 0 ≤ m ∧ m ≤ 9999 := by omega
        have hl := numS_len hb.1 hb.2
        refine c_strI (log_sm hb.1 hb.2) ?_
        show wG X _ (.str (numS (m))) _ _ _
        walk_at "go"
        refine ite_df (by decide +kernel) ?_
        walk_at "go"
        refine o_mulS ?_ (mulOk0 (by have e : (Str.ofString "MM").length = 2 := (by decide +kernel); omega) (by have e : (Str.ofString "MM").length = 2 := (by decide +kernel); omega))
        walk_at "go"
        refine o_addS ?_ (sz6 (by rw [mul0_len]; have e : (Str.ofString "MM").length = 2 := (by decide +kernel); omega))
        walk_at "go"
        refine o_addS ?_ (sz6 (by rw [app_len, mul0_len]; have e : (Str.ofString "MM").length = 2 := (by decide +kernel); omega))
        walk_at "go"
        rw [law_pad hb.1 hb.2 (k2 := ((Str.ofString "MM").length : Int)) (by first | exact .inl rfl | exact .inr (by decide)) T]
        refine ⟨_, _, _, rfl, by walk_at "ex"⟩
      · walk_at "gs"
        refine slS (sz5 (by decide +kernel)) ?_
        rw [mon_cut hm12.1 hm12.2]
        refine o_addS ?_ (sz6 (by rw [show monName m = pc "MON" (y, m, d) from rfl]; omega))
        walk_at "go"
        refine ⟨_, _, _, rfl, by walk_at "ex"⟩
      · walk_at "gs"
        refine ixS (c := 89) (sz5 (by decide +kernel)) (by rfl) ?_
        walk_at "go"
        refine o_inS ?_
        walk_at "go"
        refine ite_dt (by decide +kernel) ?_
        walk_at "go"
        refine e_sindex C ?_
        walk_at "go"
        refine ixS (c := 89) (sz5 (by decide +kernel)) (by rfl) ?_
        refine ⟨_, 2, rfl, by decide +kernel, ?_⟩
        refine ixL C (SqL.of upd_same) rfl ?_
        walk_at "gs"
        have hb : 0 ≤ (y % 100) ∧ (y % 100) ≤ 9999 := by omega
        have hl := numS_len hb.1 hb.2
        refine c_strI (log_sm hb.1 hb.2) ?_
        show wG X _ (.str (numS ((y % 100)))) _ _ _
        walk_at "go"
        refine ite_df (by decide +kernel) ?_
        walk_at "go"
        refine o_mulS ?_ (mulOk0 (by have e : (Str.ofString "YY").length = 2 := (by decide +kernel); omega) (by have e : (Str.ofString "YY").length = 2 := (by decide +kernel); omega))
        walk_at "go"
        refine o_addS ?_ (sz6 (by rw [mul0_len]; have e : (Str.ofString "YY").length = 2 := (by decide +kernel); omega))
        walk_at "go"
        refine o_addS ?_ (sz6 (by rw [app_len, mul0_len]; have e : (Str.ofString "YY").length = 2 := (by decide +kernel); omega))
        walk_at "go"
        rw [law_pad hb.1 hb.2 (k2 := ((Str.ofString "YY").length : Int)) (by first | exact .inl rfl | exact .inr (by decide)) T]
        refine ⟨_, _, _, rfl, by walk_at "ex"⟩
      · walk_at "gs"
        refine ixS (c := 89) (sz5 (by decide +kernel)) (by rfl) ?_
        walk_at "go"
        refine o_inS ?_
        walk_at "go"
        refine ite_dt (by decide +kernel) ?_
        walk_at "go"
        refine e_sindex C ?_
        walk_at "go"
        refine ixS (c := 89) (sz5 (by decide +kernel)) (by rfl) ?_
        refine ⟨_, 2, rfl, by decide +kernel, ?_⟩
        refine ixL C (SqL.of upd_same) rfl ?_
        walk_at "gs"
        have hb : 0 ≤ y ∧ y ≤ 9999 := ⟨hok.1.1, hok.1.2⟩
        have hl := numS_len hb.1 hb.2
        refine c_strI (log_sm hb.1 hb.2) ?_
        show wG X _ (.str (numS (y))) _ _ _
        walk_at "go"
        refine ite_df (by decide +kernel) ?_
        walk_at "go"
        refine o_mulS ?_ (mulOk0 (by have e : (Str.ofString "YYYY").length = 4 := (by decide +kernel); omega) (by have e : (Str.ofString "YYYY").length = 4 := (by decide +kernel); omega))
        walk_at "go"
        refine o_addS ?_ (sz6 (by rw [mul0_len]; have e : (Str.ofString "YYYY").length = 4 := (by decide +kernel); omega))
        walk_at "go"
        refine o_addS ?_ (sz6 (by rw [app_len, mul0_len]; have e : (Str.ofString "YYYY").length = 4 := (by decide +kernel); omega))
        walk_at "go"
        rw [law_pad hb.1 hb.2 (k2 := ((Str.ofString "YYYY").length : Int)) (by first | exact .inl rfl | exact .inr (by decide)) T]
        refine ⟨_, _, _, rfl, by walk_at "ex"⟩
      · walk_at "gs"
        refine ixS (c := 74) (sz5 (by decide +kernel)) (by rfl) ?_
        walk_at "go"
        refine o_inS ?_
        walk_at "go"
        refine ite_dt (by decide +kernel) ?_
        walk_at "go"
        refine e_sindex C ?_
        walk_at "go"
        refine ixS (c := 74) (sz5 (by decide +kernel)) (by rfl) ?_
        refine ⟨_, 3, rfl, by decide +kernel, ?_⟩
        refine ixL C (SqL.of upd_same) rfl ?_
        walk_at "gs"
        have hb : 0 ≤ (piy (y, m, d)) ∧ (piy (y, m, d)) ≤ 9999 := hiv
        have hl := numS_len hb.1 hb.2
        refine c_strI (log_sm hb.1 hb.2) ?_
        show wG X _ (.str (numS ((piy (y, m, d))))) _ _ _
        walk_at "go"
        refine ite_dt (by decide +kernel) ?_
        walk_at "go"
        refine o_mulS ?_ (mulOk0 (by skip; omega) (by skip; omega))
        walk_at "go"
        refine o_addS ?_ (sz6 (by rw [mul0_len]; skip; omega))
        walk_at "go"
        refine o_addS ?_ (sz6 (by rw [app_len, mul0_len]; skip; omega))
        walk_at "go"
        rw [law_pad hb.1 hb.2 (k2 := 1) (by first | exact .inl rfl | exact .inr (by decide)) T]
        refine ⟨_, _, _, rfl, by walk_at "ex"⟩
      · walk_at "gs"
        refine ixS (c := 74) (sz5 (by decide +kernel)) (by rfl) ?_
        walk_at "go"
        refine o_inS ?_
        walk_at "go"
        refine ite_dt (by decide +kernel) ?_
        walk_at "go"
        refine e_sindex C ?_
        walk_at "go"
        refine ixS (c := 74) (sz5 (by decide +kernel)) (by rfl) ?_
        refine ⟨_, 3, rfl, by decide +kernel, ?_⟩
        refine ixL C (SqL.of upd_same) rfl ?_
        walk_at "gs"
        have hb : 0 ≤ (piy (y, m, d)) ∧ (piy (y, m, d)) ≤ 9999 := hiv
        have hl := numS_len hb.1 hb.2
        refine c_strI (log_sm hb.1 hb.2) ?_
        show wG X _ (.str (numS ((piy (y, m, d))))) _ _ _
        walk_at "go"
        refine ite_df (by decide +kernel) ?_
        walk_at "go"
        refine o_mulS ?_ (mulOk0 (by have e : (Str.ofString "JJJ").length = 3 := (by decide +kernel); omega) (by have e : (Str.ofString "JJJ").length = 3 := (by decide +kernel); omega))
        walk_at "go"
        refine o_addS ?_ (sz6 (by rw [mul0_len]; have e : (Str.ofString "JJJ").length = 3 := (by decide +kernel); omega))
        walk_at "go"
        refine o_addS ?_ (sz6 (by rw [app_len, mul0_len]; have e : (Str.ofString "JJJ").length = 3 := (by decide +kernel); omega))
        walk_at "go"
        rw [law_pad hb.1 hb.2 (k2 := ((Str.ofString "JJJ").length : Int)) (by first | exact .inl rfl | exact .inr (by decide)) T]
        refine ⟨_, _, _, rfl, by walk_at "ex"⟩
      · have hw : 0 ≤ wdIx (y, m, d) ∧ wdIx (y, m, d) < 7 := by unfold wdIx; omega
        walk_at "gs"
        refine slS (sz5 (by decide +kernel)) ?_
        rw [wd_cut hw.1 hw.2]
        refine o_addS ?_ (sz6 (by rw [show wdNames.getD (wdIx (y, m, d)).toNat "" = pc "WD" (y, m, d) from rfl]; omega))
        walk_at "go"
        refine ⟨_, _, _, rfl, by walk_at "ex"⟩
    · have e1 : z ≠ "MON" := fun e => by rw [e] at hf; revert hf; decide +kernel
      have e2 : z ≠ "WD" := fun e => by rw [e] at hf; revert hf; decide +kernel
      walk_at "go"
      refine ite_df e1 ?_
      walk_at "go"
      refine ite_df e2 ?_
      walk_at "go"
      refine ixS (c := c) (sz5 (by omega)) (by rw [hc]; simpa using atI_getD (f := id) (l := c :: r) (i := 0) 0 (by decide) (by simp)) ?_
      walk_at "go"
      refine o_inS ?_
      walk_at "go"
      refine ite_df hcn ?_
      walk_at "go"
      refine o_addS ?_ (sz6 (by omega))
      walk_at "go"
      rw [pc_lit (p := z) hf]
      refine ⟨_, _, _, rfl, by walk_at "ex"⟩
  · obtain ⟨o4, o5, o6, o7, rfl, x1⟩ := hP
    walk_at "go"
    rw [List.length_map, List.take_length]
    exact q _ (by walk_at "ex")
end

section
variable {P : Program} {w : World} {K : PySem.W.Frag} {mg : Str → Option Value} {base : Heap}
theorem sc_clash_of : FnScope ["pattern", "span", "pairs", "found"] ["pattern", "span"] (defScope t_clash_of) := ⟨rfl, rfl, rfl, by decide +kernel, rfl, by decide +kernel, by decide +kernel⟩
theorem c_clash_of {f : Addr} {fd : FuncData} (F : Def K mg "clash_of" t_clash_of f fd) (b : Binds K fd ["pattern", "span"] []) (B : Bn mg) (c1 : Cal P w K mg base 8 "table" (sp_table K)) : Cal P w K mg base 9 "clash_of" (sp_clashO K) := by
  refine cal_of _ F b sc_clash_of (fun vs H Q E h => by obtain ⟨_, _, _, _, _, rfl, _⟩ := h; rfl) fun X H vs Q E C h => ?_
  obtain ⟨v, ps, u, y0, y1, rfl, hp, hs, hd, hsp, q⟩ := h
  have htl := tblF_len (wr ps) (datesIn y0 y1)
  have hdl := datesIn_len y0 y1 hsp
  show wSs X _ _ _ _ _ [some v, some u, none, none] H
  refine ss_cons ?_
  refine s_lcFG (i := 3) (i2 := 2) C (fun e => decide (1 < e.2.length)) (tblF (wr ps) (datesIn y0 y1)) (fun e v H => PairV K H (e.2.getD 1 (0, 0, 0), e.2.getD 0 (0, 0, 0)) v) (fun _ _ _ _ e h => h.tk e) (by omega) (x_V C ?_)
  walk_at "go"
  rename_i dd H1 kvs nd x1 hdd htb hfr
  refine ⟨dd, kvs, rfl, hdd, fun od => ?_⟩
  have x1' : Ex H (upd H1 dd (.frz od (.dK kvs))) := Ex.mut x1 nd
  have htb' : TblV K (upd H1 dd (.frz od (.dK kvs))) (tblF (wr ps) (datesIn y0 y1)) kvs := Paired.mapP htb fun e kv ⟨h1, l, xs, h2, h3, h4⟩ => ⟨h1, l, xs, h2, by rw [upd_ne (fun z => by rw [z, hdd] at h3; cases h3)]; exact h3, h4.tk (Tk.dk hdd)⟩
  refine ⟨fun e v => ∃ l xs, v = .ref l ∧ (upd H1 dd (.frz od (.dK kvs))) l = some (.lst xs) ∧ DatesV K (upd H1 dd (.frz od (.dK kvs))) e.2 xs, ?_, fun e u he hR H' x' X' C' => ?_, fun D ys H2 nD x2 hD hp2 => ?_⟩
  · exact paired_R htb' fun e kv ⟨h1, l, xs, h2, h3, h4⟩ => ⟨l, xs, h2, h3, h4⟩
  · obtain ⟨l, xs, rfl, hl, hds⟩ := hR
    have hl' := x' _ _ hl
    have hds' := hds.tk (Tk.of x')
    have hlen := hds.len
    show wT X' _ [some v, some _, _, some (.ref l)] H' _
    walk_at "go"
    refine c_lenL C' (SqL.of hl') ?_
    walk_at "go"
    refine ⟨Ex.refl _, by rw [hlen]; simp; omega, fun hf X'' C'' => ?_⟩
    have hf : 1 < e.2.length := of_decide_eq_true hf
    obtain ⟨x0, x1, xr, rfl, d0, d1⟩ := dates_two hds' hf
    show wE X'' _ [some v, some _, _, some (.ref l)] H' _
    walk_at "go"
    refine ixL C'' (SqL.of hl') (atI1 _ _ _) ?_
    walk_at "go"
    refine ixL C'' (SqL.of hl') (atI0 _ _) ?_
    walk_at "go"
    rename_i p np
    exact ⟨Ex.new np, p, x1, x0, rfl, SqT.of upd_same, d1.tk (Tk.of (Ex.new np)), d0.tk (Tk.of (Ex.new np))⟩
  · have hpr : Paired (PairV K H2) (secs (tblF (wr ps) (datesIn y0 y1))) ys := paired_mapF hp2
    have hsort := dates_sorted y0 y1
    have xx : Ex H H2 := Ex.trans x1' x2
    show wSs X _ _ _ _ _ [some v, some u, some (.ref D), none] H2
    walk_at "go"
    rename_i p0 np0
    have hD' := Ex.new np0 (o := .lst []) _ _ hD
    have hpr' : Paired (PairV K (upd H2 p0 (.lst []))) (secs (tblF (wr ps) (datesIn y0 y1))) ys := Paired.mapP hpr fun _ _ h => h.tk (Tk.of (Ex.new np0))
    have hsh : shA 60 ((secs (tblF (wr ps) (datesIn y0 y1))).map pD) := shA_map fun p => sh_pD 58 p
    refine o_neD C (.lst (SqL.of hD') (dpA_pairs hpr')) (.lst (SqL.of upd_same) .nil) (sh_ok (sh_list hsh) (by decide)) (sh_ok (sh_dDs 0 [])) ?_
    walk_at "go"
    cases hsc : secs (tblF (wr ps) (datesIn y0 y1)) with
    | nil =>
      rw [show PyData.eqv (.list (List.map pD [])) (.list []) = true from eqv_nil0]
      walk_at "go"
      exact q _ _ (Ex.trans xx (Ex.new np0)) fun o ho => by rw [clash_none hsort ho hsc]; rfl
    | cons s0 sr =>
      rw [eqv_nil (by simp)]
      refine iteT ?_
      refine e_revT C ?_
      walk_at "go"
      rw [hsc] at hpr' hsh
      refine c_minD C (SqL.of hD') (dpA_pairs hpr') (alike_pDs (s0 :: sr)) (shA_depth hsh) fun i v' hv hmi => ?_
      obtain ⟨p, hp, a, u1, u2, rfl, hq2, hd1, hd2⟩ := paired_ix hpr' hv
      have hmp : PySem.W.minD (pD s0) (sr.map pD) = pD p := by
        rw [← List.map_cons, List.getElem?_map, hp] at hmi
        exact (Option.some.inj hmi).symm
      refine ⟨a, u1, u2, rfl, hq2, fun p2 np2 => ?_⟩
      walk_at "go"
      refine q _ _ (Ex.trans xx (Ex.trans (Ex.new np0) (Ex.new np2))) fun o ho => ?_
      have hpm : p ∈ secs (tblF (wr ps) (datesIn y0 y1)) := by rw [hsc]; exact List.mem_of_getElem? hp
      rw [clash_min hsort ho hpm fun q' hq' => ?_]
      · exact ⟨p2, u2, u1, rfl, SqT.of upd_same, hd2.tk (Tk.of (Ex.new np2)), hd1.tk (Tk.of (Ex.new np2))⟩
      · rw [← hmp]
        rw [hsc] at hq'
        exact (minD_spec _ _).2 _ (by rw [← List.map_cons]; exact List.mem_map.mpr ⟨q', hq', rfl⟩)
theorem sc_clash : FnScope ["pattern", "span"] ["pattern", "span"] (defScope t_clash) := ⟨rfl, rfl, rfl, by decide +kernel, rfl, by decide +kernel, by decide +kernel⟩
theorem c_clash {f : Addr} {fd : FuncData} (F : Def K mg "clash" t_clash f fd) (b : Binds K fd ["pattern", "span"] []) (c1 : Cal P w K mg base 3 "need_pattern" (sp_need_pattern K)) (c2 : Cal P w K mg base 3 "need_span" (sp_need_span K)) (c3 : Cal P w K mg base 9 "clash_of" (sp_clashO K)) : Cal P w K mg base 10 "clash" (sp_clash K) := by
  refine cal_of _ F b sc_clash (fun vs H Q E h => by obtain ⟨_, _, _, _, _, rfl, _⟩ := h; rfl) fun X H vs Q E C h => ?_
  obtain ⟨v, ps, u, y0, y1, rfl, hp, hs, hi, hd, hsp, q⟩ := h
  show wSs X _ _ _ _ _ [some v, some u] H
  refine ss_cons ?_
  walk_at "go"
  rename_i r H3 x3 hr
  exact q _ _ (by walk_at "ex") hr
end

section
variable {P : Program} {w : World} {K : PySem.W.Frag} {mg : Str → Option Value} {base : Heap}
theorem sc_confused : FnScope ["pattern", "other", "span", "found", "date", "others", "one"] ["pattern", "other", "span"] (defScope t_confused) := ⟨rfl, rfl, rfl, by decide +kernel, rfl, by decide +kernel, by decide +kernel⟩
theorem c_confused {f : Addr} {fd : FuncData} (F : Def K mg "confused" t_confused f fd) (b : Binds K fd ["pattern", "other", "span"] []) (c1 : Cal P w K mg base 3 "need_pattern" (sp_need_pattern K)) (c2 : Cal P w K mg base 3 "need_span" (sp_need_span K)) (c3 : Cal P w K mg base 8 "table" (sp_table K)) (c4 : Cal P w K mg base 3 "dates_in" (sp_dates_in K)) (c5 : Cal P w K mg base 7 "written" (sp_written K)) : Cal P w K mg base 9 "confused" (sp_confused K) := by
  refine cal_of _ F b sc_confused (fun vs H Q E h => by obtain ⟨_, _, _, _, _, _, _, rfl, _⟩ := h; rfl) fun X H vs Q E C h => ?_
  obtain ⟨v, ps, o, qs, u, y0, y1, rfl, ⟨hp, hs, hi⟩, ⟨hp2, hs2, hi2⟩, hd, hsp, q⟩ := h
  have hdl := datesIn_len y0 y1 hsp
  show wSs X _ _ _ _ _ [some v, some o, some u, none, none, none, none] H
  refine ss_cons ?_
  walk_at "go"
  rename_i H1 x1 H2 x2 H3 x3 dd H4 kvs nd x4 hdd htb hfr
  refine s_forL C ?_
  walk_at "go"
  rename_i pl H5 xs npl x5 hpl hds
  have x15 : Ex H H5 := Ex.trans x1 (Ex.trans x2 (Ex.trans x3 (Ex.trans x4 x5)))
  have hp5 := hp.tk (Tk.of x15)
  refine ⟨pl, xs, rfl, fun n σ' H' => ∃ o4 o5, σ' = [some v, some o, some u, some (.ref dd), o4, o5, none] ∧ Ex H5 H' ∧ ((datesIn y0 y1).take n).findSome? (fun d => (conf1 (wr ps) (wr qs) (datesIn y0 y1) d).head?.map fun e => (d, e)) = none, ⟨none, none, rfl, Ex.refl _, rfl⟩, fun n σ' H' hP => ?_, fun n x σ' H' hx hP => ?_, fun σ' H' hP => ?_⟩
  · obtain ⟨o4, o5, rfl, x6, hno⟩ := hP
    exact SqL.of (x6 _ _ hpl)
  · obtain ⟨o4, o5, rfl, x6, hno⟩ := hP
    obtain ⟨d, hdn, hdv⟩ := paired_ix hds hx
    have hdv6 := hdv.tk (Tk.of x6)
    have hp6 := hp5.tk (Tk.of x6)
    have hok := okD_of (mem_dates hsp (List.mem_of_getElem? hdn))
    have hdd6 := x6 _ _ (x5 _ _ hdd)
    have htb6 := htb.ex (Ex.trans x5 x6)
    clear hp5
    walk_at "g"
    refine ss_cons ?_
    have hfl : ((datesIn y0 y1).filter fun z => decide (wr qs z = wr ps d)).length ≤ 4464 := Nat.le_trans (List.length_filter_le _ _) hdl
    refine s_lcFG (i := 6) (i2 := 5) C (fun z => !decide (z = d)) ((datesIn y0 y1).filter fun z => decide (wr qs z = wr ps d)) (fun z v H => DateV K H z v) (fun _ _ _ _ e h => h.tk e) (by omega) (x_L C ?_)
    refine e_dget2 C ?_
    walk_at "go"
    refine ⟨dd, kvs, rfl, .inl hdd6, ?_⟩
    walk_at "go"
    rename_i H7 x7 p0 np0
    have x8 : Ex H7 (upd H7 p0 (.lst [])) := Ex.new np0
    refine ⟨kvs, _, rfl, .inl (x8 _ _ (x7 _ _ hdd6)), ?_⟩
    have hlst : ∃ a ys, (valV kvs (Sum.inr (wr ps d) : Key)).getD (.ref p0) = .ref a ∧ SqL K (upd H7 p0 (.lst [])) a ys ∧ DatesV K (upd H7 p0 (.lst [])) ((datesIn y0 y1).filter fun z => decide (wr qs z = wr ps d)) ys := by
      have hg := (tGet_tbl (wr qs) (wr ps d) (datesIn y0 y1)).1
      rcases (htb6.ex (Ex.trans x7 x8)).get (k := wr ps d) with ⟨hn, htn⟩ | ⟨es, l, ys, htn, hn, hl, hys⟩
      · rw [htn] at hg
        rw [hn, ← hg]
        exact ⟨p0, [], rfl, SqL.of upd_same, .nil⟩
      · rw [htn] at hg
        have hg : es = _ := hg
        rw [hn, ← hg]
        exact ⟨l, ys, rfl, SqL.of hl, hys⟩
    obtain ⟨al, ys, e1, hql, hys⟩ := hlst
    refine ⟨al, ys, e1, hql, fun z v => DateV K (upd H7 p0 (.lst [])) z v, hys, fun z u' hz hR H' x' X' C' => ?_, fun D zs H9 nD x9 hD hp9 => ?_⟩
    · have hR' := hR.tk (Tk.of x')
      have hdv' := hdv6.tk (Tk.of (Ex.trans x7 (Ex.trans x8 x')))
      show wT X' _ [some v, some o, some u, _, some x, _, some u'] H' _
      walk_at "go"
      refine o_neD C' (dp_date hR') (dp_date hdv') (sh_ok (sh_dD 0 _)) (sh_ok (sh_dD 0 _)) ?_
      rw [eqv_dD]
      walk_at "go"
      refine ⟨Ex.refl _, rfl, fun _ X'' C'' => ?_⟩
      show wE X'' _ [some v, some o, some u, _, some x, _, some u'] H' _
      walk_at "go"
      exact ⟨Ex.refl _, hR'⟩
    · have x69 : Ex H5 H9 := Ex.trans x6 (Ex.trans x7 (Ex.trans x8 x9))
      have hp9 : DatesV K H9 (conf1 (wr ps) (wr qs) (datesIn y0 y1) d) zs := hp9
      show wSs X _ _ _ _ _ [some v, some o, some u, some (.ref dd), some x, some (.ref D), none] H9
      walk_at "go"
      rename_i p1 np1
      have x10 : Ex H9 (upd H9 p1 (.lst [])) := Ex.new np1
      refine o_neD C (dp_dates (SqL.of (x10 _ _ hD)) (hp9.tk (Tk.of x10))) (.lst (SqL.of upd_same) .nil) (sh_ok (sh_dDs 0 _)) (sh_ok (sh_dDs 0 [])) ?_
      cases hc : conf1 (wr ps) (wr qs) (datesIn y0 y1) d with
      | nil =>
        rw [show PyData.eqv (.list (List.map dD [])) (.list []) = true from eqv_nil0]
        walk_at "go"
        exact ⟨_, _, rfl, Ex.trans x69 x10, find_step hdn hno (by rw [hc]; rfl)⟩
      | cons e1 er =>
        rw [eqv_nil (by simp)]
        walk_at "go"
        rw [hc] at hp9
        cases hp9 with
        | cons r t =>
          refine ixL C (SqL.of (x10 _ _ hD)) (atI0 _ _) ?_
          walk_at "go"
          rename_i p2 np2
          refine q _ _ (Ex.trans x15 (Ex.trans x69 (Ex.trans x10 (Ex.new np2)))) fun o' ho' => ?_
          have hcf : confOf (wr ps) (wr qs) (datesIn y0 y1) = some (d, e1) := find_split hdn hno (by rw [hc]; rfl)
          rw [ho', hcf]
          exact ⟨p2, x, _, rfl, SqT.of upd_same, hdv6.tk (Tk.of (Ex.trans x7 (Ex.trans x8 (Ex.trans x9 (Ex.trans x10 (Ex.new np2)))))), r.tk (Tk.of (Ex.trans x10 (Ex.new np2)))⟩
  · obtain ⟨o4, o5, rfl, x6, hno⟩ := hP
    walk_at "go"
    refine q _ _ (Ex.trans x15 x6) fun o' ho' => ?_
    rw [hds.len, List.take_length] at hno
    rw [ho']
    show OptV K H' (confOf _ _ _) _
    unfold confOf
    rw [hno]
    rfl
end

section
variable {P : Program} {w : World} {K : PySem.W.Frag} {mg : Str → Option Value} {base : Heap}
theorem sc_widths : FnScope ["pattern", "span", "lengths", "text"] ["pattern", "span"] (defScope t_widths) := ⟨rfl, rfl, rfl, by decide +kernel, rfl, by decide +kernel, by decide +kernel⟩
theorem c_widths {f : Addr} {fd : FuncData} (F : Def K mg "widths" t_widths f fd) (b : Binds K fd ["pattern", "span"] []) (B : Bn mg) (c1 : Cal P w K mg base 3 "need_pattern" (sp_need_pattern K)) (c2 : Cal P w K mg base 3 "need_span" (sp_need_span K)) (c3 : Cal P w K mg base 8 "table" (sp_table K)) : Cal P w K mg base 9 "widths" (sp_widths K) := by
  refine cal_of _ F b sc_widths (fun vs H Q E h => by obtain ⟨_, _, _, _, _, rfl, _⟩ := h; rfl) fun X H vs Q E C h => ?_
  obtain ⟨v, ps, u, y0, y1, rfl, hp, hs, hi, hd, hsp, q⟩ := h
  have htl := tblF_len (wr ps) (datesIn y0 y1)
  have hdl := datesIn_len y0 y1 hsp
  have hdp := dates_pos hsp
  show wSs X _ _ _ _ _ [some v, some u, none, none] H
  refine ss_cons ?_
  walk_at "go"
  rename_i H1 x1 H2 x2
  refine s_lcG (i := 3) (i2 := 2) C (tblF (wr ps) (datesIn y0 y1)) (fun e v _ => v = .int (e.1.length : Int)) (fun _ _ _ _ _ h => h) (by omega) (x_K C ?_)
  walk_at "go"
  rename_i dd H3 kvs nd x3 hdd htb hfr
  refine ⟨dd, kvs, rfl, hdd, fun od => ?_⟩
  have x3' : Ex H2 (upd H3 dd (.frz od (.dK kvs))) := Ex.mut x3 nd
  refine ⟨fun e v => v = .str e.1, paired_R htb fun e kv ⟨h1, _⟩ => by rw [h1]; rfl, fun e u' he hR H' x' X' C' => ?_, fun D ys H4 nD x4 hD hp4 => ?_⟩
  · subst hR
    obtain ⟨d, hdm, hfd⟩ := keys_mem.mp (List.mem_map.mpr ⟨e, he, rfl⟩)
    have hl : e.1.length ≤ 1004000 := by rw [← hfd]; exact wr_len (okD_of (mem_dates hsp hdm)) hs
    show wE X' _ [some v, some u, none, some (.str e.1)] H' _
    walk_at "go"
    refine c_lenS (sz6 (by omega)) ?_
    exact ⟨Ex.refl _, rfl⟩
  · have hys := paired_eq (f := fun (e : Str × List Dt) => V.int (e.1.length : Int)) (fun _ _ q => q) hp4
    rw [hys] at hD
    have hD' : H4 D = some (.lst ((klens (tblF (wr ps) (datesIn y0 y1))).map V.int)) := by rw [hD]; unfold klens; rw [List.map_map]; rfl
    have hpos : 0 < (klens (tblF (wr ps) (datesIn y0 y1))).length := by
      obtain ⟨d, hdm⟩ := List.exists_mem_of_length_pos hdp
      exact List.length_pos_of_mem (klens_mem.mpr (List.mem_map.mpr ⟨d, hdm, rfl⟩))
    show wSs X _ _ _ _ _ [some v, some u, some (.ref D), none] H4
    walk_at "go"
    refine c_minI C (SqL.of hD') hpos fun m hm1 hm2 => ?_
    walk_at "go"
    refine c_maxI C (SqL.of hD') hpos fun m2 hm3 hm4 => ?_
    walk_at "go"
    rename_i p np
    exact q p m m2 _ (Ex.trans x1 (Ex.trans x2 (Ex.trans x3' (Ex.trans x4 (Ex.new np))))) (SqT.of upd_same) ⟨klens_mem.mp hm1, fun x hx => hm2 x (klens_mem.mpr hx)⟩ ⟨klens_mem.mp hm3, fun x hx => hm4 x (klens_mem.mpr hx)⟩
theorem sc_unsorted : FnScope ["pattern", "span", "days", "texts", "date", "text", "behind"] ["pattern", "span"] (defScope t_unsorted) := ⟨rfl, rfl, rfl, by decide +kernel, rfl, by decide +kernel, by decide +kernel⟩
theorem c_unsorted {f : Addr} {fd : FuncData} (F : Def K mg "unsorted" t_unsorted f fd) (b : Binds K fd ["pattern", "span"] []) (B : Bn mg) (c1 : Cal P w K mg base 3 "need_pattern" (sp_need_pattern K)) (c2 : Cal P w K mg base 3 "need_span" (sp_need_span K)) (c3 : Cal P w K mg base 3 "dates_in" (sp_dates_in K)) (c4 : Cal P w K mg base 7 "written" (sp_written K)) : Cal P w K mg base 9 "unsorted" (sp_unsorted K) := by
  refine cal_of _ F b sc_unsorted (fun vs H Q E h => by obtain ⟨_, _, _, _, _, rfl, _⟩ := h; rfl) fun X H vs Q E C h => ?_
  obtain ⟨v, ps, u, y0, y1, rfl, hp, hs, hi, hd, hsp, q⟩ := h
  have hdl := datesIn_len y0 y1 hsp
  show wSs X _ _ _ _ _ [some v, some u, none, none, none, none, none] H
  refine ss_cons ?_
  walk_at "go"
  rename_i H1 x1 H2 x2 pd H3 xs npd x3 hpd hds
  have x03 : Ex H H3 := Ex.trans x1 (Ex.trans x2 x3)
  have hxl := hds.len
  refine s_lcG (i := 4) (i2 := 3) C (datesIn y0 y1) (fun d v _ => v = .str (wr ps d)) (fun _ _ _ _ _ h => h) (by omega) (x_L C ?_)
  walk_at "go"
  refine ⟨pd, xs, rfl, SqL.of hpd, fun d v => DateV K H3 d v, hds, fun d u' hd' hR H' x' X' C' => ?_, fun D ys H4 nD x4 hD hp4 => ?_⟩
  · have hdt := mem_dates hsp hd'
    have hR' := hR.tk (Tk.of x')
    have hPV' := hp.tk (Tk.of (Ex.trans x03 x'))
    show wE X' _ [some v, some u, some (.ref pd), none, some u', none, none] H' _
    walk_at "go"
    exact ⟨by assumption, rfl⟩
  · rw [paired_eq (f := fun d => V.str (wr ps d)) (fun _ _ q => q) hp4] at hD
    show wSs X _ _ _ _ _ [some v, some u, some (.ref pd), some (.ref D), none, none, none] H4
    refine ss_cons ?_
    refine s_for3 C (i_Z3 C B ?_)
    walk_at "go"
    refine slL C (SqL.of hD) fun p5 np5 => ?_
    refine a_nil ?_
    have x5 : Ex H4 (upd H4 p5 (.lst (cutV ((datesIn y0 y1).map fun d => V.str (wr ps d)) (some 1) none))) := Ex.new np5
    have hc5 : upd H4 p5 (.lst (cutV ((datesIn y0 y1).map fun d => V.str (wr ps d)) (some 1) none)) p5 = some (.lst (((datesIn y0 y1).map fun d => V.str (wr ps d)).drop 1)) := by rw [upd_same, cut1]
    generalize upd H4 p5 (.lst (cutV ((datesIn y0 y1).map fun d => V.str (wr ps d)) (some 1) none)) = H5 at x5 hc5
    have x05 : Ex H H5 := Ex.trans x03 (Ex.trans x4 x5)
    have hpd5 := x5 _ _ (x4 _ _ hpd)
    have hD5 := x5 _ _ hD
    have hds5 := hds.tk (Tk.of (Ex.trans x4 x5))
    refine ⟨pd, D, p5, xs, _, _, rfl, SqL.of hpd5, SqL.of hD5, SqL.of hc5, fun J wk => ⟨_, _, _, wk, fun n σ' H' => ∃ o4 o5 o6, σ' = [some v, some u, some (.ref pd), some (.ref D), o4, o5, o6] ∧ Ex H5 H' ∧ (List.range n).findSome? (unsAt (wr ps) (datesIn y0 y1)) = none, ⟨none, none, none, rfl, Ex.refl _, rfl⟩, fun n σ' H' hP => ?_, fun n v' σ' H' H6 hn hP hY => ?_, fun σ' H' hP => ?_⟩⟩
    · obtain ⟨o4, o5, o6, rfl, x6, hf⟩ := hP
      exact ⟨SqL.of (x6 _ _ hpd5), SqL.of (x6 _ _ hD5), SqL.of (x6 _ _ hc5)⟩
    · obtain ⟨o4, o5, o6, rfl, x6, hf⟩ := hP
      obtain ⟨T, a1, a2, a3, rfl, nT, rfl, e1, e2, e3⟩ := hY
      have x7 : Ex H5 (upd H' T (.tup [a1, a2, a3])) := Ex.trans x6 (Ex.new nT)
      obtain ⟨d, hdn, hdv⟩ := paired_ix hds5 e1
      have hdv' := hdv.tk (Tk.of x7)
      rw [List.getElem?_map, hdn] at e2
      cases e2
      rw [List.getElem?_drop, List.getElem?_map, Nat.add_comm] at e3
      cases hdm : (datesIn y0 y1)[n + 1]? with
      | none => rw [hdm] at e3; cases e3
      | some d2 =>
        rw [hdm] at e3
        cases e3
        have hat := unsAt_of (f := wr ps) hdn hdm
        refine ⟨T, _, _, _, rfl, SqT.of upd_same, ?_⟩
        walk_at "go"
        refine o_geS ?_
        walk_at "go"
        refine ite_nd (fun hlt => ?_) (fun hlt => ?_)
        · walk_at "go"
          refine q _ _ (Ex.trans x05 x7) ?_
          have hsl : slt (wr ps d) (wr ps d2) = false := decide_eq_false hlt
          rw [hsl] at hat
          have hst := uns_step hf
          rw [hat] at hst
          have : unsOf (wr ps) (datesIn y0 y1) = some d := uns_keep (by simp at hn; omega) hst
          rw [this]
          exact hdv'
        · walk_at "go"
          have hsl : slt (wr ps d) (wr ps d2) = true := decide_eq_true hlt
          rw [hsl] at hat
          exact ⟨_, _, _, rfl, x7, by rw [uns_step hf, hat]; rfl⟩
    · obtain ⟨o4, o5, o6, rfl, x6, hf⟩ := hP
      walk_at "go"
      refine q _ _ (Ex.trans x05 x6) ?_
      have hl : min (min xs.length ((datesIn y0 y1).map fun d => V.str (wr ps d)).length) (((datesIn y0 y1).map fun d => V.str (wr ps d)).drop 1).length = (datesIn y0 y1).length - 1 := by
        rw [List.length_drop, List.length_map, hxl]
        omega
      rw [hl] at hf
      show OptD K H' (unsOf (wr ps) (datesIn y0 y1)) .non
      unfold unsOf
      rw [hf]
      rfl
end

section
variable {P : Program} {w : World} {K : PySem.W.Frag} {mg : Str → Option Value} {base : Heap}
theorem sc_taken : FnScope ["part", "text", "at", "name", "stop"] ["part", "text", "at"] (defScope t_taken) := ⟨rfl, rfl, rfl, by decide +kernel, rfl, by decide +kernel, by decide +kernel⟩
theorem c_taken {f : Addr} {fd : FuncData} (F : Def K mg "taken" t_taken f fd) (b : Binds K fd ["part", "text", "at"] []) (B : Bn mg) (G1 : GT K mg "FIELDS" (fields.map V.str)) (G2 : GT K mg "MONTHS" (monNames.map V.str)) (G3 : GT K mg "WEEKDAYS" (wdNames.map V.str)) (G4 : GV mg "DIGITS" (.str "0123456789")) (G5 : GD K w mg "LONGEST" [(("D" : Str), (2 : Int)), ("DD", 2), ("M", 2), ("MM", 2), ("YY", 2), ("YYYY", 4), ("J", 3), ("JJJ", 3)]) : Cal P w K mg base 1 "taken" sp_taken := by
  refine cal_of _ F b sc_taken (fun vs H Q E h => by obtain ⟨_, _, _, rfl, _⟩ := h; rfl) fun X H vs Q E C h => ?_
  obtain ⟨p, t, n, rfl, hp, ht, hn, q0, q1⟩ := h
  show wSs X _ _ _ _ _ [some (.str p), some (.str t), some (.int ((n : Nat) : Int)), none, none] H
  refine ss_cons ?_
  walk_at "go"
  refine ite_nb (fun hf => ?_) (fun hf => ?_)
  · have hf : isField p = false := hf
    walk_at "go"
    refine slS (sz6 (by omega)) ?_
    rw [cutS_at t n p.length hn]
    walk_at "go"
    have hg : gTake p ((cs t).drop n) = if ((cs t).drop n).take p.length = cs p then some (.inl 0, p.length) else none := by unfold gTake; rw [if_pos hf]
    refine ite_d (fun he => ?_) (fun he => ?_)
    · rw [if_pos (by rw [← cs_ST (((cs t).drop n).take p.length)]; exact congrArg cs he)] at hg
      walk_at "go"
      rename_i r nr
      have := q1 _ _ hg r _ (Ex.back (by walk_at "ex") nr) (by walk_at "ex") upd_same
      rw [hf] at this
      exact fin this rfl
    · rw [if_neg (fun z => he (by rw [z, ST_cs]))] at hg
      walk_at "go"
      exact q0 hg _ (by walk_at "ex")
  · have hf : isField p = true := hf
    walk_at "go"
    refine ite_b (fun hm => ?_) (fun hm => ?_)
    · have hm : isIn p ["MON", "WD"] = true := hm
      have hg : gTake p ((cs t).drop n) = if isIn (ST (((cs t).drop n).take 3)) (nameOf p) = true then some (.inr (ST (((cs t).drop n).take 3)), 3) else none := by unfold gTake; rw [if_neg (by rw [hf]; decide), if_pos hm]
      walk_at "go"
      refine slS (sz6 (by omega)) ?_
      rw [cutS_3 t n hn]
      walk_at "go"
      refine ite_d (fun hM => ?_) (fun hM => ?_)
      · walk_at "go"
        refine ite_b (fun hi => ?_) (fun hi => ?_)
        · have hi' : isIn (ST (((cs t).drop n).take 3)) (nameOf p) = true := by unfold nameOf; rw [if_pos hM]; exact hi
          rw [if_pos hi'] at hg
          walk_at "go"
          rename_i r nr
          have := q1 _ _ hg r _ (Ex.back (by walk_at "ex") nr) (by walk_at "ex") upd_same
          rw [hf] at this
          exact fin this rfl
        · have hi' : isIn (ST (((cs t).drop n).take 3)) (nameOf p) = false := by unfold nameOf; rw [if_pos hM]; exact hi
          rw [if_neg (by rw [hi']; decide)] at hg
          walk_at "go"
          exact q0 hg _ (by walk_at "ex")
      · walk_at "go"
        refine ite_b (fun hi => ?_) (fun hi => ?_)
        · have hi' : isIn (ST (((cs t).drop n).take 3)) (nameOf p) = true := by unfold nameOf; rw [if_neg hM]; exact hi
          rw [if_pos hi'] at hg
          walk_at "go"
          rename_i r nr
          have := q1 _ _ hg r _ (Ex.back (by walk_at "ex") nr) (by walk_at "ex") upd_same
          rw [hf] at this
          exact fin this rfl
        · have hi' : isIn (ST (((cs t).drop n).take 3)) (nameOf p) = false := by unfold nameOf; rw [if_neg hM]; exact hi
          rw [if_neg (by rw [hi']; decide)] at hg
          walk_at "go"
          exact q0 hg _ (by walk_at "ex")
    · have hm : isIn p ["MON", "WD"] = false := hm
      have hg : gTake p ((cs t).drop n) = if 0 < ndig (longest p) ((cs t).drop n) then some (.inl (NumText.digitsVal (((cs t).drop n).take (ndig (longest p) ((cs t).drop n))) : Nat), ndig (longest p) ((cs t).drop n)) else none := by unfold gTake; rw [if_neg (by rw [hf]; decide), if_neg (by rw [hm]; decide)]
      have hle := ndig_le (longest p) ((cs t).drop n)
      have hlm := long_mem hf hm
      have hl4 : longest p ≤ 4 := by unfold longest; split; · omega
                                     split <;> omega
      have hdl : ((cs t).drop n).length = t.length - n := by rw [List.length_drop, cs_len]
      walk_at "go"
      rename_i p1 n1 _
      have x1 : Ex H (upd H p1 (.tup [V.str "MON", V.str "WD"])) := Ex.new n1
      generalize upd H p1 (.tup [V.str "MON", V.str "WD"]) = H1 at x1
      refine s_cut (fun σ' H' => σ' = [some (.str p), some (.str t), some (.int ((n : Nat) : Int)), none, some (.int ((n + ndig (longest p) ((cs t).drop n) : Nat) : Int))] ∧ H' = H1) ?_ ?_
      · refine s_while C (fun m σ' H' => ∃ j : Nat, m = longest p - j ∧ j ≤ longest p ∧ n + j ≤ t.length ∧ ndig (longest p) ((cs t).drop n) = j + ndig (longest p - j) (((cs t).drop n).drop j) ∧ σ' = [some (.str p), some (.str t), some (.int ((n : Nat) : Int)), none, some (.int ((n + j : Nat) : Int))] ∧ H' = H1) ⟨_, 0, rfl, Nat.zero_le _, hn, by simp, rfl, rfl⟩ ?_
        rintro m σ' H' ⟨j, rfl, hj, hnj, hnd, rfl, rfl⟩
        walk_at "go"
        refine c_lenS (sz6 (by omega)) ?_
        walk_at "go"
        refine ite_d (fun h1 => ?_) (fun h1 => ?_)
        · walk_at "go"
          refine e_gd C G5 fun ad hK => ?_
          walk_at "go"
          refine ixK C (hK _ _ hlm) ?_
          walk_at "go"
          refine ite_d (fun h2 => ?_) (fun h2 => ?_)
          · have h1' : n + j < t.length := by omega
            have h2' : j < longest p := by omega
            obtain ⟨c, hc⟩ : ∃ c, (cs t)[n + j]? = some c := by
              have : n + j < (cs t).length := by rw [cs_len]; exact h1'
              exact ⟨_, List.getElem?_eq_getElem this⟩
            walk_at "go"
            refine ixS (c := c) (sz6 (by omega)) (by
              rw [show ((n + j : Nat) : Int) = (((n + j : Nat)) : Int) from rfl]
              exact atI_nat hc) ?_
            walk_at "go"
            refine o_inS ?_
            rw [dig_iff]
            walk_at "go"
            have hc' : ((cs t).drop n)[j]? = some c := by rw [List.getElem?_drop]; exact hc
            refine ite_b (fun h3 => ?_) (fun h3 => ?_)
            · refine ⟨_, fun σ' H' z => z, ?_⟩
              refine ss_one (s_aug (i := 4) C rfl (Or.inl rfl) rfl ?_)
              walk_at "go"
              refine o_iadd ?_
              refine ⟨longest p - (j + 1), by omega, j + 1, rfl, h2', by omega, ?_, ?_, rfl⟩
              · rw [hnd, ndig_step h2' hc' h3, List.drop_drop]; omega
              · show [_, _, _, _, some (V.int (((n + j : Nat) : Int) + 1))] = _
                rw [show (((n + j : Nat) : Int) + 1) = ((n + (j + 1) : Nat) : Int) by omega]
            · refine ⟨?_, rfl⟩
              have : ndig (longest p - j) (((cs t).drop n).drop j) = 0 := ndig_stop (.inr (.inr ⟨c, _, by
                obtain ⟨hl, hx⟩ := List.getElem?_eq_some_iff.mp hc'
                rw [List.drop_eq_getElem_cons hl, hx], h3⟩))
              rw [hnd, this]
              rfl
          · walk_at "go"
            refine ⟨?_, rfl⟩
            have : ndig (longest p - j) (((cs t).drop n).drop j) = 0 := ndig_stop (.inl (by omega))
            rw [hnd, this]
            rfl
        · walk_at "go"
          refine ⟨?_, rfl⟩
          have : ndig (longest p - j) (((cs t).drop n).drop j) = 0 := ndig_stop (.inr (.inl (List.drop_eq_nil_of_le (by omega))))
          rw [hnd, this]
          rfl
      · rintro σ' H' ⟨rfl, rfl⟩
        walk_at "go"
        refine ite_d (fun h1 => ?_) (fun h1 => ?_)
        · rw [if_pos (by omega)] at hg
          refine e_tup (a_cons ?_)
          refine f_int C B ?_
          walk_at "go"
          refine slS (sz6 (by omega)) ?_
          rw [show ((n + ndig (longest p) ((cs t).drop n) : Nat) : Int) = (n : Int) + (ndig (longest p) ((cs t).drop n) : Int) by omega, cutS_at t n _ hn]
          walk_at "go"
          have hlen : (((cs t).drop n).take (ndig (longest p) ((cs t).drop n))).length = ndig (longest p) ((cs t).drop n) := by rw [List.length_take]; omega
          refine c_intS (SX.int_S (List.all_eq_true.mpr (ndig_dig _ _)) (fun z => by rw [z] at hlen; simp at hlen; omega) (by rw [hlen]; omega)) (by show (((cs t).drop n).take _).length ≤ 640; rw [hlen]; omega) ?_
          walk_at "go"
          rename_i r nr
          have := q1 _ _ hg r _ (Ex.back (by walk_at "ex") nr) (by walk_at "ex") upd_same
          rw [hf] at this
          exact fin this rfl
        · rw [if_neg (by omega)] at hg
          walk_at "go"
          exact q0 hg _ (by walk_at "ex")
theorem sc_greedy_result : FnScope ["pattern", "text", "result", "at", "part", "found"] ["pattern", "text"] (defScope t_greedy_result) := ⟨rfl, rfl, rfl, by decide +kernel, rfl, by decide +kernel, by decide +kernel⟩
theorem c_greedy_result {f : Addr} {fd : FuncData} (F : Def K mg "greedy_result" t_greedy_result f fd) (b : Binds K fd ["pattern", "text"] []) (B : Bn mg) (G1 : GT K mg "FIELDS" (fields.map V.str)) (c1 : Cal P w K mg base 1 "taken" sp_taken) : Cal P w K mg base 2 "greedy_result" (sp_gres K) := by
  refine cal_of _ F b sc_greedy_result (fun vs H Q E h => by obtain ⟨_, _, _, rfl, _⟩ := h; rfl) fun X H vs Q E C h => ?_
  obtain ⟨v, ps, t, rfl, hp, hs, ht, q⟩ := h
  obtain ⟨vp, rfl, hvp⟩ := hp
  show wSs X _ _ _ _ _ [some (.ref vp), some (.str t), none, none, none, none] H
  refine ss_cons ?_
  refine s_par2 (i := 2) (j := 3) C ?_
  walk_at "go"
  rename_i r nr
  refine ⟨_, _, rfl, ?_⟩
  show wSs X _ _ _ _ _ [some (.ref vp), some (.str t), some (.ref r), some (.int 0), none, none] _
  refine ss_cons ?_
  refine s_forT C ?_
  walk_at "go"
  refine ⟨vp, ps.map V.str, rfl, fun n σ' H' => ∃ (k : Nat) (acc : List Key), ∃ o4 o5, σ' = [some (.ref vp), some (.str t), some (.ref r), some (.int ((k : Nat) : Int)), o4, o5] ∧ Bt r H H' ∧ H' r = some (.lst (acc.map kV)) ∧ acc.length ≤ n ∧ k ≤ t.length ∧ gRes ps (cs t) = (gRes (ps.drop n) ((cs t).drop k)).map (acc ++ ·), ⟨0, [], none, none, rfl, Bt.of (Ex.new nr), upd_same, Nat.le_refl _, Nat.zero_le _, by simp⟩, fun n σ' H' hP => ?_, fun n u σ' H' hu hP => ?_, fun σ' H' hP => ?_⟩
  · obtain ⟨k, acc, o4, o5, rfl, hb, hr, hal, hk, hg⟩ := hP
    exact sqt_ex (Bt.ex hb (Ex.refl _) nr) hvp
  · obtain ⟨k, acc, o4, o5, rfl, hb, hr, hal, hk, hg⟩ := hP
    rw [List.getElem?_map] at hu
    cases hpn : ps[n]? with
    | none => rw [hpn] at hu; cases hu
    | some p =>
      rw [hpn] at hu
      cases hu
      have hpl := small_tail hs (List.mem_of_getElem? hpn)
      have hdr : ps.drop n = p :: ps.drop (n + 1) := by
        obtain ⟨hl, hx⟩ := List.getElem?_eq_some_iff.mp hpn
        rw [List.drop_eq_getElem_cons hl, hx]
      have hnl : n < 1000 := by
        have := (List.getElem?_eq_some_iff.mp hpn).1
        have := hs.1
        omega
      rw [hdr] at hg
      have hx := Bt.ex hb (Ex.refl _) nr
      walk_at "go"
      refine u_taken hpl ht hk ⟨fun ht0 H2 x2 => ?_, fun key j ht0 pq H2 npq x2 hpq => ?_⟩
      · walk_at "go"
        refine ite_dt rfl ?_
        walk_at "go"
        refine q _ _ (Ex.trans hx x2) (fun x hx => by cases hx) ?_
        rw [hg]
        unfold gRes
        rw [ht0]
        rfl
      · have hkj := gTake_le ht0
        rw [List.length_drop, cs_len] at hkj
        have hr2 := x2 _ _ hr
        have hb2 : Bt r H H2 := hb.trans (Bt.of x2)
        have hq2 : SqT K H2 pq [if isField p = true then kV key else .non, .int ((k + j : Nat) : Int)] := SqT.of hpq
        have hgr : gRes (p :: ps.drop (n + 1)) ((cs t).drop k) = (gRes (ps.drop (n + 1)) ((cs t).drop (k + j))).map fun r => if isField p = true then key :: r else r := by
          conv => lhs; unfold gRes
          rw [ht0]
          dsimp only
          rw [List.drop_drop]
        rw [hgr] at hg
        clear hpq
        walk_at "go"
        refine ite_df (fun e => by cases e) ?_
        walk_at "go"
        refine ite_b (fun hf => ?_) (fun hf => ?_)
        · have hf : isField p = true := hf
          rw [if_pos hf] at hq2
          rw [hf] at hg
          refine ss_one (s_expr (m_app ?_))
          walk_at "go"
          refine ⟨r, _, rfl, hr2, ?_⟩
          walk_at "go"
          refine ⟨_, hr2, sz5' (by simp; omega), ?_⟩
          have hne : pq ≠ r := fun z => by rw [z, hr] at npq; cases npq
          have hq3 : SqT K (upd H2 r (.lst (acc.map kV ++ [kV key]))) pq [kV key, .int ((k + j : Nat) : Int)] := sqt_tk (Tk.lst hr2) hq2
          clear hq2
          walk_at "go"
          refine ⟨k + j, acc ++ [key], _, _, rfl, hb2.trans Bt.upd, by rw [upd_same, List.map_append]; rfl, by simp; omega, by omega, ?_⟩
          rw [hg]
          cases gRes (ps.drop (n + 1)) ((cs t).drop (k + j)) with
          | none => rfl
          | some z => simp
        · have hf : isField p = false := hf
          rw [if_neg (by rw [hf]; decide)] at hq2
          rw [hf] at hg
          walk_at "go"
          refine ⟨k + j, acc, _, _, rfl, hb2, hr2, by omega, by omega, ?_⟩
          rw [hg]
          cases gRes (ps.drop (n + 1)) ((cs t).drop (k + j)) with
          | none => rfl
          | some z => simp
  · obtain ⟨k, acc, o4, o5, rfl, hb, hr, hal, hk, hg⟩ := hP
    have hx := Bt.ex hb (Ex.refl _) nr
    rw [List.length_map, List.drop_length] at hg
    walk_at "go"
    refine c_lenS (sz6 (by omega)) ?_
    walk_at "go"
    refine ite_d (fun he => ?_) (fun he => ?_)
    · walk_at "go"
      refine q _ _ hx (fun x hx => by cases hx; exact nr) ?_
      have : (cs t).drop k = [] := List.drop_eq_nil_of_le (by rw [cs_len]; omega)
      rw [hg, this]
      exact ⟨r, rfl, by simpa using hr⟩
    · walk_at "go"
      refine q _ _ hx (fun x hx => by cases hx) ?_
      have : ¬ (cs t).drop k = [] := fun z => by
        have := List.drop_eq_nil_iff.mp z
        rw [cs_len] at this
        omega
      rw [hg]
      show GrV H' ((if (cs t).drop k = [] then some [] else none).map _) .non
      rw [if_neg this]
      rfl
theorem sc_misread : FnScope ["pattern", "span", "date", "due", "part"] ["pattern", "span"] (defScope t_misread) := ⟨rfl, rfl, rfl, by decide +kernel, rfl, by decide +kernel, by decide +kernel⟩
theorem c_misread {f : Addr} {fd : FuncData} (F : Def K mg "misread" t_misread f fd) (b : Binds K fd ["pattern", "span"] []) (B : Bn mg) (G1 : GT K mg "FIELDS" (fields.map V.str)) (c1 : Cal P w K mg base 3 "need_pattern" (sp_need_pattern K)) (c2 : Cal P w K mg base 3 "need_span" (sp_need_span K)) (c3 : Cal P w K mg base 3 "dates_in" (sp_dates_in K)) (c4 : Cal P w K mg base 5 "value_of" (sp_value_of K)) (c5 : Cal P w K mg base 2 "greedy_result" (sp_gres K)) (c6 : Cal P w K mg base 7 "written" (sp_written K)) : Cal P w K mg base 8 "misread" (sp_misread K) := by
  refine cal_of _ F b sc_misread (fun vs H Q E h => by obtain ⟨_, _, _, _, _, rfl, _⟩ := h; rfl) fun X H vs Q E C h => ?_
  obtain ⟨v, ps, u, y0, y1, rfl, hp, hs, hi, hd, hsp, q⟩ := h
  have hdl := datesIn_len y0 y1 hsp
  show wSs X _ _ _ _ _ [some v, some u, none, none, none] H
  refine ss_cons ?_
  walk_at "go"
  refine s_forL C ?_
  walk_at "go"
  rename_i H1 x1 H2 x2 pd H3 xs npd x3 hpd hds
  have x03 : Ex H H3 := Ex.trans x1 (Ex.trans x2 x3)
  have hp3 := hp.tk (Tk.of x03)
  clear hp hd x1 x2 x3
  refine ⟨pd, xs, rfl, fun n σ' H' => ∃ o2 o3, σ' = [some v, some u, o2, o3, none] ∧ Ex H3 H' ∧ ((datesIn y0 y1).take n).find? (misD ps) = none, ⟨none, none, rfl, Ex.refl _, rfl⟩, fun n σ' H' hP => ?_, fun n u' σ' H' hu hP => ?_, fun σ' H' hP => ?_⟩
  · obtain ⟨o2, o3, rfl, x4, hf⟩ := hP
    exact SqL.of (x4 _ _ hpd)
  · obtain ⟨o2, o3, rfl, x4, hf⟩ := hP
    obtain ⟨d, hdn, hdv⟩ := paired_ix hds hu
    have hdt := mem_dates hsp (List.mem_of_getElem? hdn)
    have hdv4 := hdv.tk (Tk.of x4)
    have hp4 := hp3.tk (Tk.of x4)
    have htk : (datesIn y0 y1).take (n + 1) = (datesIn y0 y1).take n ++ [d] := by rw [List.take_add_one, hdn]; rfl
    have hok := okD_of hdt
    obtain ⟨vp, rfl, hvp⟩ := id hp4
    walk_at "go"
    refine s_lcFG (i := 4) (i2 := 3) C isField ps (fun p v _ => v = kV (fkey p d)) (fun _ _ _ _ _ h => h) (by have := hs.1; omega) (x_T C ?_)
    walk_at "go"
    refine ⟨vp, ps.map V.str, rfl, hvp, fun p v => v = .str p, paired_self (R := fun (p : Str) v => v = V.str p) (g := V.str) (fun _ => rfl) ps, fun p u5 hpm hR H5 x5 X' C' => ?_, fun D ys H5 nD x5 hD hp5 => ?_⟩
    · subst hR
      have hdv5 := hdv4.tk (Tk.of x5)
      show wT X' _ [some (.ref vp), some u, some u', o3, some (.str p)] H5 _
      walk_at "go"
      refine ⟨Ex.refl _, rfl, fun _ X'' C'' => ?_⟩
      show wE X'' _ [some (.ref vp), some u, some u', o3, some (.str p)] H5 _
      walk_at "go"
      exact ⟨by assumption, fkey_fval p d⟩
    · have hys := paired_eq (f := fun (p : Str) => kV (fkey p d)) (fun _ _ q => q) hp5
      have hD' : H5 D = some (.lst ((dueF ps d).map kV)) := by rw [hD, hys]; unfold dueF; rw [List.map_map]; rfl
      have hdv5 := hdv4.tk (Tk.of x5)
      have hp5 := hp4.tk (Tk.of x5)
      clear hdv4 hp4 hp3 hdv
      show wSs X _ _ _ _ _ [some (.ref vp), some u, some u', some (.ref D), none] H5
      walk_at "go"
      rename_i H6 x6
      have hp6 := hp5.tk (Tk.of x6)
      refine u_gres hp6 hs (by have := wr_len hok hs; omega) fun r H7 x7 _ hr => ?_
      have hD7 := x7 _ _ (x6 _ _ hD')
      walk_at "go"
      refine o_neD C (dp_gr hr) (.lst (SqL.of hD7) (dpA_keys _)) (sh_ok (sh_gr (n := 0) fun l hl => gRes_ok hl)) (sh_ok (sh_keys (n := 0) (dueF_ok hok))) ?_
      rw [show PyData.list ((dueF ps d).map kD) = grD (some (dueF ps d)) from rfl, eqv_gr]
      walk_at "go"
      have hxx := Ex.trans x03 (Ex.trans x4 (Ex.trans x5 (Ex.trans x6 x7)))
      refine ite_nd (fun hne => ?_) (fun he => ?_)
      · walk_at "go"
        refine q _ _ hxx ?_
        have hm : misD ps d = true := decide_eq_true hne
        have : misOf ps (datesIn y0 y1) = some d := by
          unfold misOf
          rw [← List.take_append_drop (n + 1) (datesIn y0 y1), List.find?_append, htk, List.find?_append, hf]
          simp [hm]
        rw [this]
        exact hdv5.tk (Tk.of (Ex.trans x6 x7))
      · walk_at "go"
        have hm : misD ps d = false := decide_eq_false (fun z => z he)
        refine ⟨_, _, rfl, Ex.trans x4 (Ex.trans x5 (Ex.trans x6 x7)), ?_⟩
        rw [htk, List.find?_append, hf]
        simp [hm]
  · obtain ⟨o2, o3, rfl, x4, hf⟩ := hP
    walk_at "go"
    refine q _ _ (Ex.trans x03 x4) ?_
    rw [hds.len, List.take_length] at hf
    show OptD K H' (misOf ps (datesIn y0 y1)) .non
    unfold misOf
    rw [hf]
    rfl
end

section
variable {P : Program} {w : World} {K : PySem.W.Frag} {mg : Str → Option Value} {base : Heap}
theorem sc_with_bars : FnScope ["pattern", "gaps", "result", "at", "part"] ["pattern", "gaps"] (defScope t_with_bars) := ⟨rfl, rfl, rfl, by decide +kernel, rfl, by decide +kernel, by decide +kernel⟩
theorem c_with_bars {f : Addr} {fd : FuncData} (F : Def K mg "with_bars" t_with_bars f fd) (b : Binds K fd ["pattern", "gaps"] []) (B : Bn mg) : Cal P w K mg base 1 "with_bars" (sp_with_bars K) := by
  refine cal_of _ F b sc_with_bars (fun vs H Q E h => by obtain ⟨_, _, _, _, rfl, _⟩ := h; rfl) fun X H vs Q E C h => ?_
  obtain ⟨v, ps, g, gaps, rfl, ⟨vp, rfl, hvp⟩, hl, hg, q⟩ := h
  show wSs X _ _ _ _ _ [some (.ref vp), some (.ref g), none, none, none] H
  refine ss_cons ?_
  walk_at "gn"
  rename_i r G1 nr y1 er
  refine s_for2 C (i_EnT C B ?_)
  walk_at "gn"
  have hvp1 := sqt_ex y1 hvp
  have hgr : g ≠ r := fun z => by rw [z, nr] at hg; cases hg
  have hg1 := y1 _ _ hg
  refine ⟨vp, ps.map V.str, rfl, hvp1, fun J wk => ⟨_, _, _, wk, fun n σ' H' => ∃ o3 o4, σ' = [some (.ref vp), some (.ref g), some (.ref r), o3, o4] ∧ Bt r G1 H' ∧ H' r = some (.lst ((wb "|" (ps.take n) gaps).map V.str)), ⟨none, none, rfl, Bt.of (Ex.refl _), er⟩, fun n σ' H' hP => ?_, fun n v σ' H' H2 hn hP hY => ?_, fun σ' H' hP => ?_⟩⟩
  · obtain ⟨o3, o4, rfl, hb, hr⟩ := hP
    exact sqt_tk (Tk.bt hb er) hvp1
  · obtain ⟨o3, o4, rfl, hb, hr⟩ := hP
    obtain ⟨T, x, y, rfl, nT, rfl, e1, e2⟩ := hY
    cases e1
    have e2 : (ps.map V.str)[n]? = some y := e2
    rw [List.getElem?_map] at e2
    cases hpn : ps[n]? with
    | none => rw [hpn] at e2; cases e2
    | some p =>
      rw [hpn] at e2
      cases e2
      have x2 : Ex H' (upd H' T (.tup [.int ((n : Nat) : Int), .str p])) := Ex.new nT
      have hr2 := x2 _ _ hr
      have hg2 := x2 _ _ (hb _ _ hgr hg1)
      have hb2 : Bt r G1 (upd H' T (.tup [.int ((n : Nat) : Int), .str p])) := hb.trans (Bt.of x2)
      have hwl := wbF_len "|" gaps (ps.take n) 0
      have hwl2 : (wb "|" (ps.take n) gaps).length ≤ 200 := by unfold wb; rw [List.length_take] at hwl; omega
      refine ⟨T, _, _, rfl, SqT.of upd_same, ?_⟩
      generalize upd H' T (.tup [.int ((n : Nat) : Int), .str p]) = H3 at x2 hr2 hg2 hb2
      walk_at "gn"
      refine m_app ?_
      walk_at "gn"
      refine ⟨r, _, rfl, hr2, ?_⟩
      walk_at "gn"
      refine ⟨_, hr2, sz5' (by simp; omega), ?_⟩
      have hb4 : Bt r G1 (upd H3 r (.lst ((wb "|" (ps.take n) gaps).map V.str ++ [.str p]))) := hb2.trans Bt.upd
      have hg4 : upd H3 r (.lst ((wb "|" (ps.take n) gaps).map V.str ++ [.str p])) g = some (.lst (gaps.map nI)) := by rw [upd_ne hgr]; exact hg2
      have hr4 : upd H3 r (.lst ((wb "|" (ps.take n) gaps).map V.str ++ [.str p])) r = some (.lst ((wb "|" (ps.take n) gaps ++ [p]).map V.str)) := by rw [upd_same, List.map_append]; rfl
      generalize upd H3 r (.lst ((wb "|" (ps.take n) gaps).map V.str ++ [.str p])) = H4 at hb4 hg4 hr4
      walk_at "gn"
      refine o_inL C (SqL.of hg4) rfl (flat_nats gaps) ?_
      rw [show inV (.int ((n : Nat) : Int)) (gaps.map nI) = decide (n ∈ gaps) from inV_nat gaps n]
      walk_at "gn"
      refine ite_d (fun hi => ?_) (fun hi => ?_)
      · walk_at "gn"
        refine m_app ?_
        walk_at "gn"
        refine ⟨r, _, rfl, hr4, ?_⟩
        walk_at "gn"
        refine ⟨_, hr4, sz5' (by simp; omega), ?_⟩
        walk_at "gn"
        refine ⟨_, _, rfl, hb4.trans Bt.upd, ?_⟩
        rw [upd_same, wb_take hpn, if_pos hi]
        simp
      · walk_at "gn"
        refine ⟨_, _, rfl, hb4, ?_⟩
        rw [hr4, wb_take hpn, if_neg hi]
  · obtain ⟨o3, o4, rfl, hb, hr⟩ := hP
    rw [List.length_map, List.take_length] at hr
    have hx := Bt.ex hb y1 nr
    walk_at "gn"
    refine c_tupL C (SqL.of hr) fun p np => ?_
    exact q p _ (Ex.back hx np) (Ex.trans hx (Ex.new np)) upd_same
theorem sc_choices : FnScope ["many", "size", "start", "found", "first", "rest"] ["many", "size", "start"] (defScope t_choices) := ⟨rfl, rfl, rfl, by decide +kernel, rfl, by decide +kernel, by decide +kernel⟩
theorem ch_step {f : Addr} {fd : FuncData} (F : Def K mg "choices" t_choices f fd) (b : Binds K fd ["many", "size", "start"] []) (B : Bn mg) (n : Nat) (hn : n ≤ 5) (c1 : ∀ m, n = m + 1 → Cal P w K mg base (m + 1) "choices" (sp_choices m)) : Cal P w K mg base (n + 1) "choices" (sp_choices n) := by
  refine cal_of _ F b sc_choices (fun vs H Q E h => by obtain ⟨_, _, _, rfl, _⟩ := h; rfl) fun X H vs Q E C h => ?_
  obtain ⟨many, size, st, rfl, hsz, hm, hst, q⟩ := h
  show wSs X _ _ _ _ _ [some (.int (many : Int)), some (.int (size : Int)), some (.int (st : Int)), none, none, none] H
  refine ss_cons ?_
  walk_at "gn"
  refine ite_d (fun hs0 => ?_) (fun hs0 => ?_)
  · have hs0 : size = 0 := by omega
    subst hs0
    walk_at "gn"
    rename_i p1 G1 n1 y1 e1 p2 G2 n2 y2 e2
    exact q p2 G2 _ (Ex.back y1 n2) (Ex.trans y1 y2) e2 (.cons ⟨p1, rfl, n1, y2 _ _ e1⟩ .nil)
  · obtain ⟨m, rfl⟩ : ∃ m, n = m + 1 := ⟨n - 1, by omega⟩
    obtain ⟨s1, rfl⟩ : ∃ s, size = s + 1 := ⟨size - 1, by omega⟩
    have c1 := c1 m rfl
    walk_at "gn"
    rename_i fo G1 nfo y1 efo
    refine s_forR2 C B ?_
    walk_at "gn"
    have hcl := chs_len many hm
    refine ⟨_, _, rfl, rfl, ⟨by omega, by omega, by omega, by omega⟩, fun k σ' H' => ∃ xs o4, σ' = [some (.int (many : Int)), some (.int ((s1 + 1 : Nat) : Int)), some (.int (st : Int)), some (.ref fo), o4, none] ∧ Bt fo G1 H' ∧ H' fo = some (.lst xs) ∧ ListsV G1 H' (((List.range' st (many - st)).take k).flatMap fun first => (chs many s1 (first + 1)).map (first :: ·)) xs, ⟨[], none, rfl, Bt.of (Ex.refl _), efo, .nil⟩, fun k σ' H' hk hP => ?_, fun σ' H' hP => ?_⟩
    · obtain ⟨xs, o4, rfl, hb, hfo, hls⟩ := hP
      have hk' : k < many - st := by omega
      have hp5 : (10 : Nat) ^ s1 ≤ 10 ^ 4 := Nat.pow_le_pow_right (by decide) (by omega)
      have hxl : xs.length ≤ 10 * 10 ^ 4 := by
        have e1 : xs.length = (((List.range' st (many - st)).take k).flatMap fun first => (chs many s1 (first + 1)).map (first :: ·)).length := (Paired.length hls).symm
        rw [e1]
        have e2 : (((List.range' st (many - st)).take k).flatMap fun first => (chs many s1 (first + 1)).map (first :: ·)).length ≤ ((List.range' st (many - st)).take k).length * 10 ^ 4 := flatMap_len (fun a => by rw [List.length_map]; exact Nat.le_trans (hcl _ _) hp5) _
        refine Nat.le_trans e2 (Nat.mul_le_mul_right _ ?_)
        rw [List.length_take, List.length_range']
        omega
      walk_at "gn"
      refine m_ext ?_
      walk_at "gn"
      refine ⟨fo, _, rfl, hfo, ?_⟩
      refine e_lcI (i := 5) C (z_L C ?_)
      refine e_call C c1 ?_ (Nat.le_refl _)
      walk_at "gn"
      rw [show (((s1 + 1 : Nat) : Int) - 1) = ((s1 : Nat) : Int) by omega, show ((st : Int) + (k : Int) + 1) = ((st + k + 1 : Nat) : Int) by omega]
      refine u_choices (by omega) hm (by omega) fun pc H3 ys npc x3 hpc hl3 => ?_
      have hyl : ys.length = (chs many s1 (st + k + 1)).length := (Paired.length hl3).symm
      have hyl2 : ys.length ≤ 10 ^ 4 := by rw [hyl]; exact Nat.le_trans (hcl _ _) hp5
      refine ⟨pc, ys, rfl, SqL.of hpc, fun D nD => ?_⟩
      have hpD : pc ≠ D := fun z => by rw [z, nD] at hpc; cases hpc
      refine ⟨fun m2 Hm => ∃ zs, Hm D = some (.lst zs) ∧ Bt D H3 Hm ∧ zs.length = m2 ∧ ListsV (upd H3 D (.lst [])) Hm (((chs many s1 (st + k + 1)).take m2).map ((st + k) :: ·)) zs, ⟨[], upd_same, Bt.of (Ex.new nD), rfl, .nil⟩, fun m2 Hm hm2 hP => ?_, fun m2 v Hm H5 hm2 hP hY X' C' => ?_, fun Hm hP => ?_⟩
      · obtain ⟨zs, hD, hbD, hzl, hlz⟩ := hP
        exact SqL.of (hbD _ _ hpD hpc)
      · obtain ⟨zs, hD, hbD, hzl, hlz⟩ := hP
        obtain ⟨rfl, hv⟩ := hY
        obtain ⟨l, hl, al, rfl, nal, hal⟩ := paired_ix hl3 hv
        have halD : al ≠ D := fun z => by rw [z, nD] at hal; cases hal
        have hal5 := hbD _ _ halD hal
        show wE X' _ [some (.int (many : Int)), some (.int ((s1 + 1 : Nat) : Int)), some (.int (st : Int)), some (.ref fo), some (.int ((st : Int) + (k : Int))), some (.ref al)] H5 _
        walk_at "gn"
        rename_i pa G6 na y6 ea
        have hll : l.length ≤ 10 := chs_mem_len hm (List.mem_of_getElem? hl) (by omega)
        refine o_catL ea (y6 _ _ hal5) (sz5 (by simp; omega)) fun pb npb => ?_
        have y7 : Ex H5 (upd G6 pb (.lst ([V.int ((st : Int) + (k : Int))] ++ l.map nI))) := Ex.trans y6 (Ex.new npb)
        refine ⟨zs, y7 _ _ hD, sz5' (by omega), zs ++ [.ref pb], upd_same, (hbD.trans (Bt.of y7)).trans Bt.upd, by simp [hzl], ?_⟩
        have hpbD : pb ≠ D := fun z => by rw [z, y6 _ _ hD] at npb; cases npb
        rw [List.take_add_one, hl, List.map_append]
        refine paired_app (Paired.mapP hlz fun l' v ⟨a, h1, h2, h3⟩ => ⟨a, h1, h2, ?_⟩) (.cons ⟨pb, rfl, ?_, ?_⟩ .nil)
        · have haD : a ≠ D := fun z => by rw [z, upd_same] at h2; cases h2
          rw [upd_ne haD]
          exact y7 _ _ h3
        · rw [upd_ne hpbD]
          cases hz : H3 pb with
          | none => rfl
          | some o => rw [y6 _ _ (hbD _ _ hpbD hz)] at npb; cases npb
        · rw [upd_ne hpbD, upd_same]
          simp [nI]
      · obtain ⟨zs, hD, hbD, hzl, hlz⟩ := hP
        have hDfo : D ≠ fo := fun z => by rw [z, x3 _ _ hfo] at nD; cases nD
        have hx4 : Ex H' Hm := fun a o ha => hbD a o (fun z => by rw [z] at ha; rw [x3 _ _ ha] at nD; cases nD) (x3 _ _ ha)
        rw [hyl, List.take_length] at hlz
        refine ⟨D, xs, zs, rfl, hx4 _ _ hfo, hD, sz5 (by omega), ?_⟩
        walk_at "gn"
        refine ⟨xs ++ zs, _, rfl, (hb.trans (Bt.of hx4)).trans Bt.upd, upd_same, ?_⟩
        rw [range'_take hk', List.flatMap_append]
        have hfoN : ∀ a, G1 a = none → a ≠ fo := fun a ha z => by rw [z, efo] at ha; cases ha
        refine paired_app (Paired.mapP hls fun l' v ⟨a, h1, h2, h3⟩ => ⟨a, h1, h2, by rw [upd_ne (hfoN a h2)]; exact hx4 _ _ h3⟩) ?_
        rw [show ([st + k].flatMap fun first => (chs many s1 (first + 1)).map (first :: ·)) = (chs many s1 (st + k + 1)).map ((st + k) :: ·) by simp]
        refine Paired.mapP hlz fun l' v ⟨a, h1, h2, h3⟩ => ?_
        have ha3 : H3 a = none := by
          by_cases z : a = D
          · rw [z]; exact nD
          · rw [upd_ne z] at h2; exact h2
        have hafo : a ≠ fo := fun z => by rw [z, x3 _ _ hfo] at ha3; cases ha3
        refine ⟨a, h1, ?_, by rw [upd_ne hafo]; exact h3⟩
        cases hz : G1 a with
        | none => rfl
        | some o => rw [x3 _ _ (hb _ _ hafo hz)] at ha3; cases ha3
    · obtain ⟨xs, o4, rfl, hb, hfo, hls⟩ := hP
      have hx := Bt.ex hb y1 nfo
      walk_at "gn"
      refine q fo H' xs nfo hx hfo ?_
      have e1 : ((many : Int) - (st : Int)).toNat = many - st := by omega
      have e2 : (List.range' st (many - st)).take ((many : Int) - (st : Int)).toNat = List.range' st (many - st) := by rw [e1]; exact List.take_of_length_le (by rw [List.length_range']; exact Nat.le_refl _)
      rw [e2] at hls
      exact hls.back y1
theorem c_choices {f : Addr} {fd : FuncData} (F : Def K mg "choices" t_choices f fd) (b : Binds K fd ["many", "size", "start"] []) (B : Bn mg) : Cal P w K mg base 6 "choices" (sp_choices 5) := by
  have h0 := ch_step (P := P) (w := w) (base := base) F b B 0 (by decide) (fun m h => by cases h)
  have h1 := ch_step F b B 1 (by decide) (fun m h => by cases h; exact h0)
  have h2 := ch_step F b B 2 (by decide) (fun m h => by cases h; exact h1)
  have h3 := ch_step F b B 3 (by decide) (fun m h => by cases h; exact h2)
  have h4 := ch_step F b B 4 (by decide) (fun m h => by cases h; exact h3)
  exact ch_step F b B 5 (by decide) (fun m h => by cases h; exact h4)
theorem sc_bars : FnScope ["pattern", "span", "gaps", "size", "some"] ["pattern", "span"] (defScope t_bars) := ⟨rfl, rfl, rfl, by decide +kernel, rfl, by decide +kernel, by decide +kernel⟩
theorem c_bars {f : Addr} {fd : FuncData} (F : Def K mg "bars" t_bars f fd) (b : Binds K fd ["pattern", "span"] []) (B : Bn mg) (c1 : Cal P w K mg base 3 "need_pattern" (sp_need_pattern K)) (c2 : Cal P w K mg base 3 "need_span" (sp_need_span K)) (c3 : Cal P w K mg base 9 "clash_of" (sp_clashO K)) (c4 : Cal P w K mg base 1 "with_bars" (sp_with_bars K)) (c5 : Cal P w K mg base 6 "choices" (sp_choices 5)) : Cal P w K mg base 10 "bars" (sp_bars K) := by
  refine cal_of _ F b sc_bars (fun vs H Q E h => by obtain ⟨_, _, _, _, _, rfl, _⟩ := h; rfl) fun X H vs Q E C h => ?_
  obtain ⟨v, ps, u, y0, y1, rfl, hp, hs, hi, hd, hsp, q⟩ := h
  have hl : 1 ≤ ps.length ∧ ps.length ≤ 7 := by
    unfold isPat at hi
    simp only [Bool.and_eq_true, decide_eq_true_eq] at hi
    exact ⟨hi.1, hi.2.1⟩
  obtain ⟨gn, hgn⟩ : ∃ n, ps.length = n + 1 := ⟨ps.length - 1, by omega⟩
  have hgn' : ps.length - 1 = gn := by omega
  have hsm : ∀ gaps, small (wb "|" ps gaps) := fun gaps => wb_small hs (by omega) (by decide)
  obtain ⟨vp, rfl, hvp⟩ := id hp
  show wSs X _ _ _ _ _ [some (.ref vp), some u, none, none, none] H
  refine ss_cons ?_
  walk_at "gj"
  rename_i H1 x1 H2 x2
  have hvp2 := sqt_ex (Ex.trans x1 x2) hvp
  rw [show (((ps.map V.str).length : Nat) : Int) - 1 = ((gn : Nat) : Int) by rw [List.length_map, hgn]; omega]
  walk_at "gj"
  refine s_if ?_
  refine t_cmp ?_
  refine e_call C c3 ?_
  refine a_cons ?_
  refine e_call C c4 ?_
  walk_at "gn"
  refine ⟨gn, rfl, by omega, fun g1 H3 ng1 x3 hg1 => ?_⟩
  have hp3 := hp.tk (Tk.of (Ex.trans x1 (Ex.trans x2 x3)))
  have hd3 := hd.tk (Tk.of (Ex.trans x1 (Ex.trans x2 x3)))
  refine a_nil ?_
  refine u_with_bars hp3 (by omega) hg1 fun w1 H4 nw1 x4 hw1 => ?_
  have hwv : StrsV K H4 (wb "|" ps (List.range gn)) (.ref w1) := ⟨w1, rfl, SqT.of hw1⟩
  have hd4 := hd3.tk (Tk.of x4)
  have hsm1 := hsm (List.range gn)
  have x04 : Ex H H4 := by walk_at "ex"
  have hp4 := hp3.tk (Tk.of x4)
  clear hp3 hd3 hp hd x1 x2 x3 hvp hvp2
  walk_at "gn"
  rename_i r1 H5 x5 hr1
  obtain ⟨o1, ho1⟩ := clash_ex (wr (wb "|" ps (List.range gn))) (datesIn y0 y1)
  have hr1' := hr1 o1 ho1
  have hk1 := clash_ok ho1
  have hbo : barsOf ps (datesIn y0 y1) = if okB ps (datesIn y0 y1) (List.range gn) = true then some (((barL gn).find? (okB ps (datesIn y0 y1))).getD (List.range gn)) else none := by unfold barsOf; rw [hgn']
  have x05 : Ex H H5 := Ex.trans x04 x5
  have hp5 := hp4.tk (Tk.of x5)
  have hd5 := hd4.tk (Tk.of x5)
  clear hp4 hd4 hwv
  cases o1 with
  | some pr =>
    obtain ⟨ap, v1, v2, hz, _⟩ := id hr1'
    refine ite_ndf (fun e => by rw [hz] at e; cases e) ?_
    walk_at "gn"
    rw [hk1] at hbo
    exact q _ _ x05 (by rw [hbo]; rfl)
  | none =>
    cases (show r1 = .non from hr1')
    refine ite_ndt rfl ?_
    rw [if_pos (by rw [hk1]; rfl)] at hbo
    walk_at "gn"
    refine s_forR1 C B ?_
    walk_at "gn"
    refine ⟨⟨by omega, by omega⟩, fun n σ' H' => ∃ o3 o4, σ' = [some (.ref vp), some u, some (.int ((gn : Nat) : Int)), o3, o4] ∧ Ex H5 H' ∧ ((List.range n).flatMap fun s => chs gn s 0).find? (okB ps (datesIn y0 y1)) = none, ⟨none, none, rfl, Ex.refl _, rfl⟩, fun n σ' H' hn hP => ?_, fun σ' H' hP => ?_⟩
    · obtain ⟨o3, o4, rfl, x6, hf⟩ := hP
      have hn' : n < gn := by omega
      have hsplit : barL gn = ((List.range n).flatMap fun s => chs gn s 0) ++ (chs gn n 0 ++ ((List.range' (n + 1) (gn - (n + 1))).flatMap fun s => chs gn s 0)) := by
        unfold barL
        have e : List.range gn = List.range n ++ (n :: List.range' (n + 1) (gn - (n + 1))) := by
          rw [List.range_eq_range', List.range_eq_range', ← List.range'_succ, show gn - (n + 1) + 1 = gn - n by omega]
          have := List.range'_append (s := 0) (m := n) (n := gn - n) (step := 1)
          simp at this
          rw [this]
          congr 1
          omega
        rw [e, List.flatMap_append, List.flatMap_cons]
      walk_at "gn"
      refine s_forL C ?_
      refine e_call C c5 ?_
      walk_at "gn"
      refine u_choices (n := 5) (st := 0) (by omega) (by omega) (by omega) fun pc H7 xs npc x7 hpc hls => ?_
      have hpd7 := hp5.tk (Tk.of (Ex.trans x6 x7))
      have hd7 := hd5.tk (Tk.of (Ex.trans x6 x7))
      refine ⟨pc, xs, rfl, fun m σ' H' => ∃ o4, σ' = [some (.ref vp), some u, some (.int ((gn : Nat) : Int)), some (.int ((n : Nat) : Int)), o4] ∧ Ex H7 H' ∧ ((chs gn n 0).take m).find? (okB ps (datesIn y0 y1)) = none, ⟨_, rfl, Ex.refl _, rfl⟩, fun m σ' H' hP => ?_, fun m u8 σ' H' hu hP => ?_, fun σ' H' hP => ?_⟩
      · obtain ⟨o4, rfl, x8, hf8⟩ := hP
        exact SqL.of (x8 _ _ hpc)
      · obtain ⟨o4, rfl, x8, hf8⟩ := hP
        obtain ⟨l, hl8, al, rfl, nal, hal⟩ := paired_ix hls hu
        have hal8 := x8 _ _ hal
        have hp8 := hpd7.tk (Tk.of x8)
        have hd8 := hd7.tk (Tk.of x8)
        walk_at "gn"
        refine u_with_bars hp8 (by omega) hal8 fun w2 H9 nw2 x9 hw2 => ?_
        have hwv : StrsV K H9 (wb "|" ps l) (.ref w2) := ⟨w2, rfl, SqT.of hw2⟩
        have hsm2 := hsm l
        have hd9 := hd8.tk (Tk.of x9)
        walk_at "gn"
        rename_i r2 H10 x10 hr2
        obtain ⟨o2, ho2⟩ := clash_ex (wr (wb "|" ps l)) (datesIn y0 y1)
        have hr2' := hr2 o2 ho2
        have hk2 := clash_ok ho2
        have htk : (chs gn n 0).take (m + 1) = (chs gn n 0).take m ++ [l] := by rw [List.take_add_one, hl8]; rfl
        have xx : Ex H7 H10 := Ex.trans x8 (Ex.trans x9 x10)
        cases o2 with
        | none =>
          cases (show r2 = .non from hr2')
          refine ite_dt rfl ?_
          walk_at "gn"
          refine q _ _ (Ex.trans x05 (Ex.trans x6 (Ex.trans x7 xx))) ?_
          have hfin : (barL gn).find? (okB ps (datesIn y0 y1)) = some l := by
            rw [hsplit, List.find?_append, hf, List.find?_append]
            have : (chs gn n 0).find? (okB ps (datesIn y0 y1)) = some l := by
              rw [← List.take_append_drop (m + 1) (chs gn n 0), List.find?_append, htk, List.find?_append, hf8]
              simp [hk2]
            rw [this]
            rfl
          rw [hbo, hfin]
          exact ⟨al, rfl, Ex.back (Ex.trans x05 x6) nal, xx _ _ hal⟩
        | some pr =>
          obtain ⟨ap, v1, v2, hz, _⟩ := id hr2'
          refine ite_df (fun e => by rw [hz] at e; cases e) ?_
          walk_at "gn"
          refine ⟨_, rfl, xx, ?_⟩
          rw [htk, List.find?_append, hf8]
          simp [hk2]
      · obtain ⟨o4, rfl, x8, hf8⟩ := hP
        refine ⟨_, _, rfl, Ex.trans x6 (Ex.trans x7 x8), ?_⟩
        rw [← Paired.length hls, List.take_length] at hf8
        rw [List.range_succ, List.flatMap_append, List.find?_append, hf]
        simpa using hf8
    · obtain ⟨o3, o4, rfl, x6, hf⟩ := hP
      have hfin : (barL gn).find? (okB ps (datesIn y0 y1)) = none := by
        have e : ((gn : Nat) : Int).toNat = gn := rfl
        rw [e] at hf
        exact hf
      rw [hfin] at hbo
      walk_at "gn"
      refine ⟨gn, rfl, by omega, fun g9 H9 ng9 x9 hg9 => ?_⟩
      refine q _ _ (Ex.trans x05 (Ex.trans x6 x9)) ?_
      rw [hbo]
      exact ⟨g9, rfl, Ex.back (Ex.trans x05 x6) ng9, hg9⟩
end

section
variable {P : Program} {w : World} {K : PySem.W.Frag} {mg : Str → Option Value} {base : Heap}
theorem sc_need_patterns : FnScope ["value", "one"] ["value"] (defScope t_need_patterns) := ⟨rfl, rfl, rfl, by decide +kernel, rfl, by decide +kernel, by decide +kernel⟩
theorem c_need_patterns {f : Addr} {fd : FuncData} (F : Def K mg "need_patterns" t_need_patterns f fd) (b : Binds K fd ["value"] []) (B : Bn mg) (G1 : GV mg "MOST" (.int 5)) (c1 : Cal P w K mg base 2 "is_pattern" (sp_is_pattern K)) : Cal P w K mg base 3 "need_patterns" (sp_need_patterns K) := by
  refine cal_of _ F b sc_need_patterns (fun vs H Q E h => by obtain ⟨_, _, rfl, _⟩ := h; rfl) fun X H vs Q E C h => ?_
  obtain ⟨v, pss, rfl, ⟨a, xs, rfl, hq, hps⟩, ⟨h1, h5, hok⟩, q⟩ := h
  have hl : pss.length = xs.length := Paired.length hps
  show wSs X _ _ _ _ _ [some (.ref a), none] H
  refine ss_one (s_if ?_)
  walk_at "gn"
  refine ite_dt (by rw [← hl]; omega) ?_
  walk_at "gn"
  refine ite_ndt (by rw [← hl]; omega) ?_
  walk_at "gn"
  refine e_lcG (i := 1) C pss (fun ps v _ => v = .bl true) (fun _ _ _ _ _ h => h) (by omega) (x_T C ?_)
  walk_at "gn"
  refine ⟨a, xs, rfl, hq, fun ps v => StrsV K H ps v, hps, fun ps u hm hR H' x' X' C' => ?_, fun D ys H' nD x' hD hp' => ?_⟩
  · obtain ⟨hsm, hpt⟩ := hok ps hm
    have hR' := hR.tk (Tk.of x')
    show wE X' _ [some (.ref a), some u] H' _
    walk_at "gn"
    exact ⟨by assumption, by rw [hpt]⟩
  · have hys := paired_eq (f := fun (_ : List Str) => V.bl true) (fun _ _ q => q) hp'
    rw [hys, show (pss.map fun _ => V.bl true) = (pss.map fun _ => true).map V.bl by rw [List.map_map]; rfl] at hD
    refine a_nil (c_all C (SqL.of hD) ?_)
    rw [show ((pss.map fun _ => true).all id) = true by simp]
    walk_at "gn"
    exact q _ x'
theorem sc_is_telling : FnScope ["patterns", "tables", "date", "at", "pattern", "text", "other", "found"] ["patterns", "tables", "date"] (defScope t_is_telling) := ⟨rfl, rfl, rfl, by decide +kernel, rfl, by decide +kernel, by decide +kernel⟩
theorem c_is_telling {f : Addr} {fd : FuncData} (F : Def K mg "is_telling" t_is_telling f fd) (b : Binds K fd ["patterns", "tables", "date"] []) (B : Bn mg) (c1 : Cal P w K mg base 7 "written" (sp_written K)) : Cal P w K mg base 8 "is_telling" (sp_is_telling K) := by
  refine cal_of _ F b sc_is_telling (fun vs H Q E h => by obtain ⟨_, _, _, _, _, _, _, rfl, _⟩ := h; rfl) fun X H vs Q E C h => ?_
  obtain ⟨v, pss, tb, xs, ds, u, d, rfl, ⟨pa, ys, rfl, hpa, hps⟩, hok, htb, hdx, hdv, hkd, q⟩ := h
  have hpl : pss.length = ys.length := Paired.length hps
  show wSs X _ _ _ _ _ [some (.ref pa), some (.ref tb), some u, none, none, none, none, none] H
  refine ss_cons ?_
  refine s_for2 C (i_EnT C B ?_)
  walk_at "gn"
  refine ⟨pa, ys, rfl, hpa, fun J wk => ⟨_, _, _, wk, fun n σ' H' => ∃ o3 o4 o5, σ' = [some (.ref pa), some (.ref tb), some u, o3, o4, o5, none, none] ∧ Ex H H' ∧ ((List.range n).all fun i => !(((List.range pss.length).filter fun j => !decide (j = i)).any fun j => has (pss.getD j []) ds (wr (pss.getD i []) d))) = true, ⟨none, none, none, rfl, Ex.refl _, rfl⟩, fun n σ' H' hP => ?_, fun n v σ' H' H2 hn hP hY => ?_, fun σ' H' hP => ?_⟩⟩
  · obtain ⟨o3, o4, o5, rfl, x1, hall⟩ := hP
    exact sqt_ex x1 hpa
  · obtain ⟨o3, o4, o5, rfl, x1, hall⟩ := hP
    obtain ⟨T, x, y, rfl, nT, rfl, e1, e2⟩ := hY
    cases e1
    have e2 : ys[n]? = some y := e2
    obtain ⟨ps, hp1, hp2, hp3, hp4⟩ := pts_at hps e2
    obtain ⟨hsm, hpat⟩ := hok.2.2 ps hp3
    have x2 : Ex H (upd H' T (.tup [.int ((n : Nat) : Int), y])) := Ex.trans x1 (Ex.new nT)
    refine ⟨T, _, _, rfl, SqT.of upd_same, ?_⟩
    generalize upd H' T (.tup [.int ((n : Nat) : Int), y]) = H3 at x2
    have hp5 := hp4.tk (Tk.of x2)
    have hdv3 := hdv.tk (Tk.of x2)
    walk_at "gj"
    rename_i H4 x4
    have x04 := Ex.trans x2 x4
    have hn' : n < pss.length := by rw [hpl]; exact hn
    refine s_if (t_val ?_)
    refine f_any C B (a_cons ?_)
    refine e_lcF2G (i := 6) (j := 7) C (fun (j : Nat) => !decide (j = n)) (List.range pss.length) (fun j v _ => v = .bl (has (pss.getD j []) ds (wr ps d))) (fun _ _ _ _ _ h => h) (by simp; have := hok.2.1; omega) (y_E C B ?_)
    walk_at "gn"
    refine ⟨tb, xs, rfl, SqL.of (x04 _ _ htb), fun j u => u.1 = nI j ∧ DicV H4 ds (pss.getD j []) u.2, dics_at (hdx.ex x04), fun j v1 v2 hj hR H5 x5 X' C' => ?_, fun D zs H5 nD x5 hD hp5 => ?_⟩
    · obtain ⟨h1, da, kvs, h2, hda, hht⟩ := hR
      dsimp only at h1 h2
      subst h1 h2
      show wT X' _ [some (.ref pa), some (.ref tb), some u, some (.int ((n : Nat) : Int)), some y, some (.str (wr ps d)), some (.int ((j : Nat) : Int)), some (.ref da)] H5 _
      walk_at "gn"
      refine ⟨Ex.refl _, ?_, fun _ X2 C2 => ?_⟩
      · congr 1
        rw [Bool.eq_iff_iff, decide_eq_true_eq, decide_eq_true_eq]
        omega
      · show wE X2 _ [some (.ref pa), some (.ref tb), some u, some (.int ((n : Nat) : Int)), some y, some (.str (wr ps d)), some (.int ((j : Nat) : Int)), some (.ref da)] H5 _
        walk_at "gn"
        refine o_dIn C2 (.inl (x5 _ _ hda)) ?_
        exact ⟨Ex.refl _, by rw [hht]⟩
    · have hys := paired_eq (f := fun (j : Nat) => V.bl (has (pss.getD j []) ds (wr ps d))) (fun _ _ q => q) hp5
      rw [hys, show (((List.range pss.length).filter fun j => !decide (j = n)).map fun j => V.bl (has (pss.getD j []) ds (wr ps d))) = (((List.range pss.length).filter fun j => !decide (j = n)).map fun j => has (pss.getD j []) ds (wr ps d)).map V.bl by rw [List.map_map]; rfl] at hD
      refine a_nil (c_any C (SqL.of hD) ?_)
      have eany : ((((List.range pss.length).filter fun j => !decide (j = n)).map fun j => has (pss.getD j []) ds (wr ps d)).any id) = ((List.range pss.length).filter fun j => !decide (j = n)).any fun j => has (pss.getD j []) ds (wr (pss.getD n []) d) := by rw [List.any_map, hp2]; rfl
      rw [eany]
      walk_at "gn"
      refine ite_b (fun ht => ?_) (fun ht => ?_)
      · walk_at "gn"
        refine fin (q _ (Ex.trans x04 x5)) ?_
        congr 1
        unfold telD
        rw [List.all_eq_false]
        exact ⟨n, List.mem_range.mpr hn', by rw [ht]; decide⟩
      · walk_at "gn"
        refine ⟨_, _, _, rfl, Ex.trans x04 x5, ?_⟩
        rw [List.range_succ, List.all_append, hall]
        simp only [List.all_cons, List.all_nil, Bool.and_true, Bool.true_and]
        rw [ht]
        rfl
  · obtain ⟨o3, o4, o5, rfl, x1, hall⟩ := hP
    rw [← hpl] at hall
    walk_at "gn"
    exact fin (q _ x1) (congrArg V.bl hall)
theorem sc_telling : FnScope ["patterns", "span", "tables", "date", "pattern"] ["patterns", "span"] (defScope t_telling) := ⟨rfl, rfl, rfl, by decide +kernel, rfl, by decide +kernel, by decide +kernel⟩
theorem c_telling {f : Addr} {fd : FuncData} (F : Def K mg "telling" t_telling f fd) (b : Binds K fd ["patterns", "span"] []) (B : Bn mg) (c1 : Cal P w K mg base 3 "need_patterns" (sp_need_patterns K)) (c2 : Cal P w K mg base 3 "need_span" (sp_need_span K)) (c3 : Cal P w K mg base 3 "dates_in" (sp_dates_in K)) (c4 : Cal P w K mg base 8 "table" (sp_table K)) (c5 : Cal P w K mg base 8 "is_telling" (sp_is_telling K)) : Cal P w K mg base 9 "telling" (sp_telling K) := by
  refine cal_of _ F b sc_telling (fun vs H Q E h => by obtain ⟨_, _, _, _, _, rfl, _⟩ := h; rfl) fun X H vs Q E C h => ?_
  obtain ⟨v, pss, u, y0, y1, rfl, hpt, hok, hd, hsp, q⟩ := h
  show wSs X _ _ _ _ _ [some v, some u, none, none, none] H
  refine ss_cons ?_
  walk_at "gn"
  rename_i H1 x1 H2 x2
  have x02 := Ex.trans x1 x2
  have hpt2 := hpt.tk (Tk.of x02)
  have hd2 := hd.tk (Tk.of x02)
  clear hpt hd
  obtain ⟨pa, xs, rfl, hpa, hps⟩ := id hpt2
  have hpl : pss.length = xs.length := Paired.length hps
  refine s_lcI (i := 4) (i2 := 2) C (z_T C ?_)
  walk_at "gn"
  refine ⟨pa, xs, rfl, hpa, fun D nD => ⟨TabsI H2 (datesIn y0 y1) pss D, .start nD, fun m Hm hm hP => ?_, fun m v' Hm H5 hm hP hY X' C' => ?_, fun H4 hP => ?_⟩⟩
  · obtain ⟨⟨zs, hz, _⟩, hb⟩ := hP
    exact sqt_tk ⟨fun a o e => hb a _ (fun z => by rw [z, nD] at e; cases e) e, fun a o u e => hb a _ (fun z => by rw [z, nD] at e; cases e) e⟩ hpa
  · obtain ⟨rfl, hv⟩ := hY
    obtain ⟨ps, hp1, hp2, hp3, hp5⟩ := pts_at hps hv
    obtain ⟨hsm, hpat⟩ := hok.2.2 ps hp3
    have hb := hP.bt
    have tkb : Tk H2 H5 := ⟨fun a o e => hb a _ (fun z => by rw [z, nD] at e; cases e) e, fun a o u e => hb a _ (fun z => by rw [z, nD] at e; cases e) e⟩
    have hp6 := hp5.tk tkb
    have hd6 := hd2.tk tkb
    show wE X' _ [some (.ref pa), some u, none, none, some v'] H5 _
    walk_at "gn"
    rename_i dd H6 kvs nd x6 hdd htb hfr
    exact hP.step (K := K) hp1 (by have := hok.2.1; omega) nd x6 hdd (tbl_has' htb)
  · obtain ⟨x4, zs, hzs, hdx⟩ := hP.done nD hpl.symm
    have hpt4 := hpt2.tk (Tk.of x4)
    have hd4 := hd2.tk (Tk.of x4)
    have x04 := Ex.trans x02 x4
    clear hpt2 hd2
    show wSs X _ _ _ _ _ [some (.ref pa), some u, some (.ref D), none, none] H4
    refine ss_cons ?_
    refine s_forL C ?_
    walk_at "gn"
    rename_i pd H5 ys npd x5 hpd hds
    refine ⟨pd, ys, rfl, fun n σ' H' => ∃ o3, σ' = [some (.ref pa), some u, some (.ref D), o3, none] ∧ Ex H5 H' ∧ ((datesIn y0 y1).take n).find? (telD pss (datesIn y0 y1)) = none, ⟨none, rfl, Ex.refl _, rfl⟩, fun n σ' H' hP => ?_, fun n u' σ' H' hu hP => ?_, fun σ' H' hP => ?_⟩
    · obtain ⟨o3, rfl, x6, hf⟩ := hP
      exact SqL.of (x6 _ _ hpd)
    · obtain ⟨o3, rfl, x6, hf⟩ := hP
      obtain ⟨d, hdn, hdv⟩ := paired_ix hds hu
      have hkd := okD_of (mem_dates hsp (List.mem_of_getElem? hdn))
      have hdv6 := hdv.tk (Tk.of x6)
      have x46 := Ex.trans x5 x6
      have hpt6 := hpt4.tk (Tk.of x46)
      have htk : (datesIn y0 y1).take (n + 1) = (datesIn y0 y1).take n ++ [d] := by rw [List.take_add_one, hdn]; rfl
      walk_at "gn"
      refine u_is_telling hpt6 hok (x46 _ _ hzs) (hdx.ex x46) hdv6 hkd fun H7 x7 => ?_
      walk_at "gn"
      refine ite_b (fun ht => ?_) (fun ht => ?_)
      · walk_at "gn"
        refine q _ _ (Ex.trans x04 (Ex.trans x46 x7)) ?_
        have : telOf pss (datesIn y0 y1) = some d := find_at hdn hf ht
        rw [this]
        exact hdv6.tk (Tk.of x7)
      · walk_at "gn"
        refine ⟨_, rfl, Ex.trans x6 x7, ?_⟩
        rw [htk, List.find?_append, hf]
        simp [ht]
    · obtain ⟨o3, rfl, x6, hf⟩ := hP
      walk_at "gn"
      refine q _ _ (Ex.trans x04 (Ex.trans x5 x6)) ?_
      rw [hds.len, List.take_length] at hf
      show OptD K H' (telOf pss (datesIn y0 y1)) .non
      unfold telOf
      rw [hf]
      rfl
end

section
variable {P : Program} {w : World} {K : PySem.W.Frag} {mg : Str → Option Value} {base : Heap}
def marks : List Str := ["/", "-", ".", " ", ":"]
theorem mk_ok {mk : Str} (h : mk ∈ marks) : ∃ c, isMk mk c ∧ c ∈ [47, 45, 46, 32, 58] ∧ isPat (p1 mk) = true ∧ isPat (p2 mk) = true ∧ small (p1 mk) ∧ small (p2 mk) := by
  simp only [marks, List.mem_cons, List.not_mem_nil, or_false] at h
  have sm : ∀ mk : Str, mk.length ≤ 1000 → small (p1 mk) ∧ small (p2 mk) := fun mk hl => ⟨⟨by show 5 ≤ 1000; decide, fun p hp => by
    simp only [List.mem_cons, List.not_mem_nil, or_false] at hp
    rcases hp with rfl | rfl | rfl | rfl | rfl
    · decide +kernel
    · exact hl
    · decide +kernel
    · exact hl
    · decide +kernel⟩, ⟨by show 5 ≤ 1000; decide, fun p hp => by
    simp only [List.mem_cons, List.not_mem_nil, or_false] at hp
    rcases hp with rfl | rfl | rfl | rfl | rfl
    · decide +kernel
    · exact hl
    · decide +kernel
    · exact hl
    · decide +kernel⟩⟩
  rcases h with rfl | rfl | rfl | rfl | rfl
  · exact ⟨47, ⟨by decide +kernel, by decide +kernel, by decide⟩, by decide, by decide +kernel, by decide +kernel, (sm _ (by decide +kernel)).1, (sm _ (by decide +kernel)).2⟩
  · exact ⟨45, ⟨by decide +kernel, by decide +kernel, by decide⟩, by decide, by decide +kernel, by decide +kernel, (sm _ (by decide +kernel)).1, (sm _ (by decide +kernel)).2⟩
  · exact ⟨46, ⟨by decide +kernel, by decide +kernel, by decide⟩, by decide, by decide +kernel, by decide +kernel, (sm _ (by decide +kernel)).1, (sm _ (by decide +kernel)).2⟩
  · exact ⟨32, ⟨by decide +kernel, by decide +kernel, by decide⟩, by decide, by decide +kernel, by decide +kernel, (sm _ (by decide +kernel)).1, (sm _ (by decide +kernel)).2⟩
  · exact ⟨58, ⟨by decide +kernel, by decide +kernel, by decide⟩, by decide, by decide +kernel, by decide +kernel, (sm _ (by decide +kernel)).1, (sm _ (by decide +kernel)).2⟩
theorem yr_sp {y : Int} (h : Yr y) : isSp y y = true := by simp [isSp, isCnt]; omega
/-- a date displayed is the date told -/
theorem o_neDt {X : Cx} {N : List Str} {sc : Scope} {k : Nat} {lv : Bool} {H : Hp} {Q : VK} {v : V} {q : Addr} {d : Dt} (C : Kx X P w K mg base N sc k lv) (hv : OptD K H (some d) v) (hq : H q = some (.tup [.int d.1, .int d.2.1, .int d.2.2])) (h : Q (.bl false) H) : wOp X (compareOp .NotEq) v (.ref q) H Q := by
  refine o_neD C (dp_optD hv) (dp_date ⟨q, rfl, SqT.of hq⟩) (sh_ok (sh_odD 0 _)) (sh_ok (sh_dD 0 d)) ?_
  rw [show PyData.eqv (odD (some d)) (dD d) = true from eqv_true (sh_dD 0 d)]
  exact h
theorem o_nePr {X : Cx} {N : List Str} {sc : Scope} {k : Nat} {lv : Bool} {H : Hp} {Q : VK} {v : V} {q q1 q2 : Addr} {d e : Dt} (C : Kx X P w K mg base N sc k lv) (hv : OptV K H (some (d, e)) v) (hq : H q = some (.tup [.ref q1, .ref q2])) (h1 : H q1 = some (.tup [.int d.1, .int d.2.1, .int d.2.2])) (h2 : H q2 = some (.tup [.int e.1, .int e.2.1, .int e.2.2])) (h : Q (.bl false) H) : wOp X (compareOp .NotEq) v (.ref q) H Q := by
  refine o_neD C (dp_opt hv) (dp_opt (o := some (d, e)) ⟨q, _, _, rfl, SqT.of hq, ⟨q1, rfl, SqT.of h1⟩, ⟨q2, rfl, SqT.of h2⟩⟩) (sh_ok (sh_oD 0 _)) (sh_ok (sh_oD 0 _)) ?_
  rw [eqv_oD]
  exact h
structure O11 (K : PySem.W.Frag) (H : Hp) (y : Int) (mk : Str) (a1 a2 sp : Addr) : Prop where
  q1 : StrsV K H (p1 mk) (.ref a1)
  q2 : StrsV K H (p2 mk) (.ref a2)
  sv : SpanV K H y y (.ref sp)
theorem O11.ex {H H' : Hp} {y : Int} {mk : Str} {a1 a2 sp : Addr} (x : Ex H H') (h : O11 K H y mk a1 a2 sp) : O11 K H' y mk a1 a2 sp := ⟨h.q1.tk (Tk.of x), h.q2.tk (Tk.of x), h.sv.tk (Tk.of x)⟩
def sp_orders : Sp := fun vs H Q _ => ∃ y mk, vs = [.int y, .str mk] ∧ Yr y ∧ mk ∈ marks ∧ Ret (.bl true) H Q
theorem sc_law_orders : FnScope ["year", "mark", "span", "first", "second", "one"] ["year", "mark"] (defScope t__law_orders) := ⟨rfl, rfl, rfl, by decide +kernel, rfl, by decide +kernel, by decide +kernel⟩
set_option maxHeartbeats 8000000 in
theorem c_law_orders {f : Addr} {fd : FuncData} (F : Def K mg "_law_orders" t__law_orders f fd) (b : Binds K fd ["year", "mark"] []) (B : Bn mg) (c1 : Cal P w K mg base 9 "confused" (sp_confused K)) (c2 : Cal P w K mg base 9 "telling" (sp_telling K)) (c3 : Cal P w K mg base 9 "unsorted" (sp_unsorted K)) (c4 : Cal P w K mg base 10 "clash" (sp_clash K)) (c5 : Cal P w K mg base 9 "widths" (sp_widths K)) : Cal P w K mg base 11 "_law_orders" sp_orders := by
  refine cal_of _ F b sc_law_orders (fun vs H Q E h => by obtain ⟨_, _, rfl, _⟩ := h; rfl) fun X H vs Q E C h => ?_
  obtain ⟨y, mk, rfl, hy, hmk, q⟩ := h
  obtain ⟨c, hm, hc, hi1, hi2, hs1, hs2⟩ := mk_ok hmk
  have hsp := yr_sp hy
  show wSs X _ _ _ _ _ [some (.int y), some (.str mk), none, none, none, none] H
  refine ss_cons ?_
  walk_at "gj"
  rename_i sp H0 nsp x0 e0
  refine s_par2 (i := 3) (j := 4) C ?_
  walk_at "gj"
  rename_i a1 H1 n1 x1 e1 a2 H2 n2 x2 e2
  refine ⟨_, _, rfl, ?_⟩
  show wSs X (_ :: _) _ _ _ _ [some (.int y), some (.str mk), some (.ref sp), some (.ref a1), some (.ref a2), none] H2
  have O2 : O11 K H2 y mk a1 a2 sp := ⟨⟨a1, rfl, SqT.of (x2 _ _ e1)⟩, ⟨a2, rfl, SqT.of e2⟩, ⟨sp, rfl, SqT.of (x2 _ _ (x1 _ _ e0))⟩⟩
  have z2 := Ex.trans x0 (Ex.trans x1 x2)
  clear x0 x1 x2 e0 e1 e2 n1 n2 nsp
  -- confused(first, second)
  obtain ⟨g1, g2, g3⟩ := id O2
  refine ss_cons ?_
  walk_at "gn"
  rename_i r H3 x3 hr q1 H4 n4 x4 e4 q2 H5 n5 x5 e5 q3 H6 n6 x6 e6
  have hr := hr _ (conf_12 hy hm).symm
  refine o_nePr C (hr.tk (Tk.of (Ex.trans x4 (Ex.trans x5 x6)))) e6 (x6 _ _ (x5 _ _ e4)) (x6 _ _ e5) ?_
  have O6 := O2.ex (Ex.trans x3 (Ex.trans x4 (Ex.trans x5 x6)))
  have z6 := Ex.trans z2 (Ex.trans x3 (Ex.trans x4 (Ex.trans x5 x6)))
  clear g1 g2 g3 O2 x3 x4 x5 x6 e4 e5 e6 n4 n5 n6 hr z2
  -- telling
  walk_at "gn"
  rename_i pt H7 n7 x7 e7
  have O7 := O6.ex x7
  refine u_telling (pss := [p1 mk, p2 mk]) ⟨pt, [.ref a1, .ref a2], rfl, SqT.of e7, .cons O7.q1 (.cons O7.q2 .nil)⟩ ⟨by simp, by simp, fun ps hps => by
    rcases List.mem_cons.mp hps with rfl | hps
    · exact ⟨hs1, hi1⟩
    · rw [List.mem_singleton.mp hps]; exact ⟨hs2, hi2⟩⟩ O7.sv hsp fun r H8 x8 hr => ?_
  rw [tel_12 hy hm] at hr
  walk_at "gn"
  rename_i q1 H9 n9 x9 e9
  refine o_neDt C (hr.tk (Tk.of x9)) e9 ?_
  have O9 := O7.ex (Ex.trans x8 x9)
  have z9 := Ex.trans z6 (Ex.trans x7 (Ex.trans x8 x9))
  clear O6 O7 x7 x8 x9 e7 e9 n7 n9 hr z6
  -- confused(second, first)
  obtain ⟨g1, g2, g3⟩ := id O9
  walk_at "gn"
  rename_i r H10 x10 hr q1 H4 n4 x4 e4 q2 H5 n5 x5 e5 q3 H11 n6 x6 e6
  have hr := hr _ (conf_21 hy hm).symm
  refine o_nePr C (hr.tk (Tk.of (Ex.trans x4 (Ex.trans x5 x6)))) e6 (x6 _ _ (x5 _ _ e4)) (x6 _ _ e5) ?_
  have O11' := O9.ex (Ex.trans x10 (Ex.trans x4 (Ex.trans x5 x6)))
  have z11 := Ex.trans z9 (Ex.trans x10 (Ex.trans x4 (Ex.trans x5 x6)))
  clear g1 g2 g3 O9 x10 x4 x5 x6 e4 e5 e6 n4 n5 n6 hr z9
  -- confused(first, first)
  obtain ⟨g1, g2, g3⟩ := id O11'
  walk_at "gj"
  refine s_if ?_
  walk_at "gn"
  rename_i r H12 x12 hr
  obtain rfl : r = .non := hr _ (conf_11 hy hm).symm
  have O12 := O11'.ex x12
  have z12 := Ex.trans z11 x12
  clear g1 g2 g3 O11' x12 hr z11
  refine ite_ndt rfl ?_
  -- unsorted
  obtain ⟨g1, g2, g3⟩ := id O12
  walk_at "gn"
  rename_i r H13 x13 hr q1 H14 n14 x14 e14
  rw [uns_p1 hy hm hc] at hr
  refine o_neDt C (hr.tk (Tk.of x14)) e14 ?_
  have O14 := O12.ex (Ex.trans x13 x14)
  have z14 := Ex.trans z12 (Ex.trans x13 x14)
  clear g1 g2 g3 O12 x13 x14 e14 n14 hr z12
  obtain ⟨g1, g2, g3⟩ := id O14
  walk_at "gn"
  rename_i r H15 x15 hr q1 H16 n16 x16 e16
  rw [uns_p2 hy hm hc] at hr
  refine o_neDt C (hr.tk (Tk.of x16)) e16 ?_
  have O16 := O14.ex (Ex.trans x15 x16)
  have z16 := Ex.trans z14 (Ex.trans x15 x16)
  clear g1 g2 g3 O14 x15 x16 e16 n16 hr z14
  -- clash of both
  obtain ⟨g1, g2, g3⟩ := id O16
  walk_at "gn"
  refine e_lcG (i := 5) C [(p1 mk, a1), (p2 mk, a2)] (fun _ v _ => v = .non) (fun _ _ _ _ _ h => h) (by simp) (x_T C ?_)
  walk_at "gn"
  rename_i qt H17 n17 x17 e17
  refine ⟨qt, _, rfl, SqT.of e17, fun z u => u = .ref z.2, .cons rfl (.cons rfl .nil), fun z u hz e H' x' X' C' => ?_, fun D ys H' nD x' hD hp => ?_⟩
  · subst e
    have O18 := O16.ex (Ex.trans x17 x')
    show wE X' _ [some (.int y), some (.str mk), some (.ref sp), some (.ref a1), some (.ref a2), some (.ref z.2)] H' _
    clear g1 g2 g3 x17 e17
    obtain ⟨g1, g2, g3⟩ := id O18
    rcases List.mem_cons.mp hz with rfl | hz
    · walk_at "gn"
      rename_i r H19 x19 hr
      exact ⟨x19, hr none (.inl ⟨rfl, nodup_p1 hy hm⟩)⟩
    · rw [List.mem_singleton.mp hz]
      walk_at "gn"
      rename_i r H19 x19 hr
      exact ⟨x19, hr none (.inl ⟨rfl, nodup_p2 hy hm⟩)⟩
  rw [paired_eq (f := fun _ => V.non) (fun _ _ q => q) hp] at hD
  walk_at "gn"
  rename_i ql H18 n18 x18 e18
  have hnD : ∀ {H : Hp} {D : Addr}, H D = some (.lst [.non, .non]) → Dp K H (.ref D) (.list [.none, .none]) := fun h => .lst (SqL.of h) (.cons .non (.cons .non .nil))
  have hsh : sh 1 (.list [.none, .none]) := sh_list (shA_cons (sh_non 0) (shA_cons (sh_non 0) (shA_nil 0)))
  refine o_neD C (hnD (x18 _ _ hD)) (hnD e18) (sh_ok hsh) (sh_ok hsh) ?_
  rw [eqv_true hsh]
  have O18 := O16.ex (Ex.trans x17 (Ex.trans x' x18))
  have z18 := Ex.trans z16 (Ex.trans x17 (Ex.trans x' x18))
  clear g1 g2 g3 O16 x17 x' x18 e18 e17 n18 n17 nD hD hp z16
  -- widths
  obtain ⟨g1, g2, g3⟩ := id O18
  walk_at "gn"
  rename_i pw lo hi H19 x19 hpw hlo hhi q1 H20 n20 x20 e20
  obtain ⟨w1, w2⟩ := wid_p1 hy hm
  obtain rfl := hlo.eq w1
  obtain rfl := hhi.eq w2
  have hwD : ∀ {H : Hp} {D : Addr}, SqT K H D [.int 8, .int 10] → Dp K H (.ref D) (.tuple [.int 8, .int 10]) := fun h => .tup h (.cons (.int _) (.cons (.int _) .nil))
  have hsw : sh 1 (.tuple [.int 8, .int 10]) := sh_tup (shA_cons (sh_int 0 _) (shA_cons (sh_int 0 _) (shA_nil 0)))
  refine o_eqD C (hwD (sqt_ex x20 hpw)) (hwD (SqT.of e20)) (sh_ok hsw) (sh_ok hsw) ?_
  rw [eqv_true hsw]
  exact q _ (Ex.trans z18 (Ex.trans x19 x20))
end

section
variable {P : Program} {w : World} {K : PySem.W.Frag} {mg : Str → Option Value} {base : Heap}
abbrev N11 : List Str := ["script", "town", "year", "span", "leap", "last", "weeks", "one", "other"]
theorem sc_law : FnScope N11 ["script"] (defScope t_law) := ⟨rfl, rfl, rfl, by decide +kernel, rfl, by decide +kernel, by decide +kernel⟩
theorem optd_non {H : Hp} {r : V} (h : OptD K H none r) : r = .non := h
theorem optl_non {H H' : Hp} {r : V} (h : OptL H H' none r) : r = .non := h
theorem paired_zip {α β γ δ : Type} {F : α → β → Prop} {G : γ → δ → Prop} : ∀ {l : List α} {r : List β} {l' : List γ} {r' : List δ}, Paired F l r → Paired G l' r' → Paired (fun z u => F z.1 u.1 ∧ G z.2 u.2) (l.zip l') (r.zip r')
  | _, _, _, _, .nil, _ => .nil
  | _, _, _, _, .cons q t, .nil => .nil
  | _, _, _, _, .cons q t, .cons q' t' => .cons ⟨q, q'⟩ (paired_zip t t')
theorem paired_drop1 {α β : Type} {F : α → β → Prop} : ∀ {l : List α} {r : List β}, Paired F l r → Paired F (l.drop 1) (r.drop 1)
  | _, _, .nil => .nil
  | _, _, .cons q t => t
theorem paired_unmap {α β γ : Type} {F : α → β → Prop} {f : γ → α} : ∀ {l : List γ} {r : List β}, Paired F (l.map f) r → Paired (fun c b => F (f c) b) l r
  | [], _, .nil => .nil
  | c :: l, _, .cons q t => .cons q (paired_unmap t)
theorem o_eqPr {X : Cx} {N : List Str} {sc : Scope} {k : Nat} {lv : Bool} {H : Hp} {Q : VK} {v : V} {q q1 q2 : Addr} {d e : Dt} (C : Kx X P w K mg base N sc k lv) (hv : OptV K H (some (d, e)) v) (hq : H q = some (.tup [.ref q1, .ref q2])) (h1 : H q1 = some (.tup [.int d.1, .int d.2.1, .int d.2.2])) (h2 : H q2 = some (.tup [.int e.1, .int e.2.1, .int e.2.2])) (h : Q (.bl true) H) : wOp X (compareOp .Eq) v (.ref q) H Q := by
  refine o_eqD C (dp_opt hv) (dp_opt (o := some (d, e)) ⟨q, _, _, rfl, SqT.of hq, ⟨q1, rfl, SqT.of h1⟩, ⟨q2, rfl, SqT.of h2⟩⟩) (sh_ok (sh_oD 0 _)) (sh_ok (sh_oD 0 _)) ?_
  rw [eqv_oD]
  exact h
theorem rows_len11 (y : Int) : ((rowsIn y y).length : Int) = ylen y := by unfold rowsIn; rw [List.length_map]; exact dy_len y
set_option maxHeartbeats 8000000 in
theorem rest11b {X : Cx} {Q : VK} {a t sp : Addr} {y : Int} {H0 : Hp} (C : Kx X P w K mg base N11 (defScope t_law) 11 true) (B : Bn mg) (c1 : Cal P w K mg base 10 "clash" (sp_clash K)) (c2 : Cal P w K mg base 9 "unsorted" (sp_unsorted K)) (c3 : Cal P w K mg base 8 "misread" (sp_misread K)) (c4 : Cal P w K mg base 10 "bars" (sp_bars K)) (c5 : Cal P w K mg base 9 "readings" (sp_readings K)) (hy : Yr y) (S : SpanV K H0 y y (.ref sp)) (q0 : ∀ H', Q (.bl true) H') :
    wSs X ((defBody t_law).drop 15) (fun _ H' => Q .non H') Q (fun _ _ => False) (fun _ _ => False) [some (.ref a), some (.ref t), some (.int y), some (.ref sp), some (.bl (decide (ylen y = 366))), none, none, none, none] H0 := by
  have hsp := yr_sp hy
  show wSs X (_ :: _) _ _ _ _ _ _
  refine ss_cons ?_
  walk_at "gn"
  rename_i q G n x e
  refine u_readings (ps := ["JJJ"]) (strsV_of e) ⟨by decide, by decide +kernel⟩ (by decide +kernel) (S.tk (Tk.of x)) hsp fun r G2 zs nr x2 hr hD => ?_
  replace S := S.tk (Tk.of (Ex.trans x x2))
  rw [reads_366 hy] at hD
  clear x n e x2
  walk_at "gj"
  have next : ∀ G' r0, SpanV K G' y y (.ref sp) → wSs X ((defBody t_law).drop 17) (fun _ H' => Q .non H') Q (fun _ _ => False) (fun _ _ => False) [some (.ref a), some (.ref t), some (.int y), some (.ref sp), some (.bl (decide (ylen y = 366))), some r0, none, none, none] G' := fun G' r0 S => by
    show wSs X (_ :: _) _ _ _ _ _ _
    refine ss_cons ?_
    walk_at "gn"
    rename_i q G n x e
    refine u_readings (ps := ["DD", "MON"]) (strsV_of e) ⟨by decide, by decide +kernel⟩ (by decide +kernel) (S.tk (Tk.of x)) hsp fun r G2 zs nr x2 hr hD => ?_
    replace S := S.tk (Tk.of (Ex.trans x x2))
    rw [reads_29 hy] at hD
    clear x n e x2
    have next2 : ∀ G', SpanV K G' y y (.ref sp) → wSs X ((defBody t_law).drop 18) (fun _ H' => Q .non H') Q (fun _ _ => False) (fun _ _ => False) [some (.ref a), some (.ref t), some (.int y), some (.ref sp), some (.bl (decide (ylen y = 366))), some r0, none, none, none] G' := fun G' S => by
      show wSs X (_ :: _) _ _ _ _ _ _
      refine ss_cons ?_
      walk_at "gn"
      rename_i q G n x e
      refine u_readings (ps := ["WD", "MON"]) (strsV_of e) ⟨by decide, by decide +kernel⟩ (by decide +kernel) (S.tk (Tk.of x)) hsp fun wk G2 ws nr x2 hwk hD => ?_
      replace S := S.tk (Tk.of (Ex.trans x x2))
      obtain ⟨w0, n0, hw0, hn0, hwe⟩ := weeks_eq hy
      rw [hwe] at hD
      obtain ⟨hl45, hz7⟩ := sats_ok w0 hw0 n0 hn0
      have hwl : ws.length = (sats w0 n0).length := by rw [hD.len, List.length_map]
      clear x n e x2 hwe
      walk_at "gn"
      refine c_lenL C (SqL.of hwk) ?_
      walk_at "gn"
      rename_i q6 G6 n6 x6 e6
      replace hwk := x6 _ _ hwk
      replace hD := hD.tk (Tk.of x6)
      replace S := S.tk (Tk.of x6)
      have hin : inV (V.int (ws.length : Int)) [V.int 4, V.int 5] = true := by
        rw [hwl]
        rcases hl45 with q | q <;> rw [q] <;> decide
      rw [hin]
      walk_at "gn"
      have hPd := paired_unmap hD
      refine e_lc2G (i := 7) (j := 8) C ((sats w0 n0).zip ((sats w0 n0).drop 1)) (fun z v _ => v = .bl (decide (z.1 + 7 = z.2))) (fun _ _ _ _ _ h => h) (by rw [List.length_zip]; omega) (y_Z C B ?_)
      walk_at "gn"
      refine slL C (SqL.of hwk) fun p3 n3 => ?_
      rw [cut1]
      have x3 := Ex.new (o := .lst (ws.drop 1)) n3
      have f3 : upd G6 p3 (.lst (ws.drop 1)) p3 = some (.lst (ws.drop 1)) := upd_same
      generalize upd G6 p3 (.lst (ws.drop 1)) = G3 at x3 f3
      have hPd3 := Paired.mapP hPd fun i v (q : DateV K G6 (y, 2, 1 + (i : Int)) v) => q.tk (Tk.of x3)
      refine ⟨wk, p3, ws, _, rfl, rfl, .inl ⟨SqL.of (x3 _ _ hwk), SqL.of f3⟩, _, paired_zip hPd3 (paired_drop1 hPd3), fun z v1' v2' hz hR H' x' X' C' => ?_, fun D ys H' nD x' hD' hp => ?_⟩
      · obtain ⟨⟨b1, e1, hb1⟩, ⟨b2, e2, hb2⟩⟩ := hR
        dsimp only at e1 e2
        subst e1 e2
        have hb1' := sqt_ex x' hb1
        have hb2' := sqt_ex x' hb2
        show wE X' _ [some (.ref a), some (.ref t), some (.int y), some (.ref sp), some (.bl (decide (ylen y = 366))), some r0, some (.ref wk), some (.ref b1), some (.ref b2)] H' _
        walk_at "gn"
        refine ⟨Ex.refl _, ?_⟩
        show V.bl _ = V.bl _
        congr 1
        rw [decide_eq_decide]
        dsimp only
        omega
      rw [paired_eq (f := fun z : Nat × Nat => V.bl (decide (z.1 + 7 = z.2))) (fun _ _ q => q) hp] at hD'
      refine a_nil (c_all C (bs := ((sats w0 n0).zip ((sats w0 n0).drop 1)).map fun z => decide (z.1 + 7 = z.2)) (SqL.of (by rw [hD', List.map_map]; rfl)) ?_)
      rw [List.all_map, show (((sats w0 n0).zip ((sats w0 n0).drop 1)).all (id ∘ fun z => decide (z.1 + 7 = z.2))) = true from hz7]
      replace S := S.tk (Tk.of (Ex.trans x3 x'))
      clear hPd hPd3 hD' hp nD x' f3 x3 n3
      walk_at "gn"
      rename_i q G n x e
      refine u_clash (ps := ["WD"]) (strsV_of e) ⟨by decide, by decide +kernel⟩ (by decide +kernel) (S.tk (Tk.of x)) hsp fun r G2 x2 hr => ?_
      have hr := hr _ (.inr ⟨_, _, rfl, dup_WD hy⟩)
      walk_at "gn"
      rename_i q3 G3 n3 x3 e3 q4 G4 n4 x4 e4 q5 G5 n5 x5 e5
      refine o_eqPr C (hr.tk (Tk.of (Ex.trans x3 (Ex.trans x4 x5)))) e5 (x5 _ _ (x4 _ _ e3)) (x5 _ _ e4) ?_
      exact q0 _
    have dl : ∀ {H : Hp} {D : Addr} {xs : List V} {ds : List Dt}, H D = some (.lst xs) → DatesV K H ds xs → Dp K H (.ref D) (.list (ds.map dD)) := fun h1 h2 => .lst (SqL.of h1) (dpA_dates h2)
    have hsh : ∀ ds : List Dt, sh 2 (.list (ds.map dD)) := fun ds => sh_list (shA_map (n := 1) fun d => sh_dD 0 d)
    walk_at "gn"
    refine ite_d (fun hc => ?_) (fun hc => ?_)
    · rw [if_pos hc] at hD
      walk_at "gn"
      rename_i q3 G3 n3 x3 e3 q4 G4 n4 x4 e4
      refine o_neD C (dl (x4 _ _ (x3 _ _ hr)) (hD.tk (Tk.of (Ex.trans x3 x4)))) (dl (ds := [(y, 2, 29)]) e4 (.cons ⟨q3, rfl, SqT.of (x4 _ _ e3)⟩ .nil)) (sh_ok (hsh _)) (sh_ok (hsh _)) ?_
      rw [eqv_true (hsh _)]
      refine ⟨_, rfl, iteF (ss_nil (next2 _ (S.tk (Tk.of (Ex.trans x3 x4)))))⟩
    · rw [if_neg hc] at hD
      walk_at "gn"
      rename_i q4 G4 n4 x4 e4
      refine o_neD C (dl (x4 _ _ hr) (hD.tk (Tk.of x4))) (dl (ds := []) e4 .nil) (sh_ok (hsh _)) (sh_ok (hsh _)) ?_
      rw [eqv_true (hsh _)]
      refine ⟨_, rfl, iteF (ss_nil (next2 _ (S.tk (Tk.of x4))))⟩
  have dl : ∀ {H : Hp} {D : Addr} {xs : List V} {ds : List Dt}, H D = some (.lst xs) → DatesV K H ds xs → Dp K H (.ref D) (.list (ds.map dD)) := fun h1 h2 => .lst (SqL.of h1) (dpA_dates h2)
  have hsh : ∀ ds : List Dt, sh 2 (.list (ds.map dD)) := fun ds => sh_list (shA_map (n := 1) fun d => sh_dD 0 d)
  refine s_if ?_
  walk_at "gn"
  refine ite_d (fun hc => ?_) (fun hc => ?_)
  · rw [if_pos hc] at hD
    walk_at "gn"
    rename_i q3 G3 n3 x3 e3 q4 G4 n4 x4 e4
    refine o_neD C (dl (x4 _ _ (x3 _ _ hr)) (hD.tk (Tk.of (Ex.trans x3 x4)))) (dl (ds := [(y, 12, 31)]) e4 (.cons ⟨q3, rfl, SqT.of (x4 _ _ e3)⟩ .nil)) (sh_ok (hsh _)) (sh_ok (hsh _)) ?_
    rw [eqv_true (hsh _)]
    refine ⟨_, rfl, iteF (ss_nil (next _ _ (S.tk (Tk.of (Ex.trans x3 x4)))))⟩
  · rw [if_neg hc] at hD
    walk_at "gn"
    rename_i q4 G4 n4 x4 e4
    refine o_neD C (dl (x4 _ _ hr) (hD.tk (Tk.of x4))) (dl (ds := []) e4 .nil) (sh_ok (hsh _)) (sh_ok (hsh _)) ?_
    rw [eqv_true (hsh _)]
    refine ⟨_, rfl, iteF (ss_nil (next _ _ (S.tk (Tk.of x4))))⟩
set_option maxHeartbeats 8000000 in
theorem rest11a {X : Cx} {Q : VK} {a t sp : Addr} {y : Int} {H0 : Hp} (C : Kx X P w K mg base N11 (defScope t_law) 11 true) (B : Bn mg) (c1 : Cal P w K mg base 10 "clash" (sp_clash K)) (c2 : Cal P w K mg base 9 "unsorted" (sp_unsorted K)) (c3 : Cal P w K mg base 8 "misread" (sp_misread K)) (c4 : Cal P w K mg base 10 "bars" (sp_bars K)) (c5 : Cal P w K mg base 9 "readings" (sp_readings K)) (hy : Yr y) (S : SpanV K H0 y y (.ref sp)) (q0 : ∀ H', Q (.bl true) H') :
    wSs X ((defBody t_law).drop 4) (fun _ H' => Q .non H') Q (fun _ _ => False) (fun _ _ => False) [some (.ref a), some (.ref t), some (.int y), some (.ref sp), some (.bl (decide (ylen y = 366))), none, none, none, none] H0 := by
  have hsp := yr_sp hy
  show wSs X (_ :: _) _ _ _ _ _ _
  refine ss_cons ?_
  walk_at "gn"
  rename_i q G n x e
  refine u_clash (ps := ["D", "M"]) (strsV_of e) ⟨by decide, by decide +kernel⟩ (by decide +kernel) (S.tk (Tk.of x)) hsp fun r G2 x2 hr => ?_
  replace S := S.tk (Tk.of (Ex.trans x x2))
  clear x n e
  have hr := hr _ (.inr ⟨_, _, rfl, dup_DM hy⟩)
  clear x2
  walk_at "gn"
  rename_i q3 G3 n3 x3 e3 q4 G4 n4 x4 e4 q5 G5 n5 x5 e5
  refine o_nePr C (hr.tk (Tk.of (Ex.trans x3 (Ex.trans x4 x5)))) e5 (x5 _ _ (x4 _ _ e3)) (x5 _ _ e4) ?_
  replace S := S.tk (Tk.of (Ex.trans x3 (Ex.trans x4 x5)))
  clear x3 n3 e3 x4 n4 e4 x5 n5 e5 hr
  walk_at "gn"
  rename_i q G n x e
  refine u_clash (ps := ["M", "D"]) (strsV_of e) ⟨by decide, by decide +kernel⟩ (by decide +kernel) (S.tk (Tk.of x)) hsp fun r G2 x2 hr => ?_
  replace S := S.tk (Tk.of (Ex.trans x x2))
  clear x n e
  have hr := hr _ (.inr ⟨_, _, rfl, dup_MD hy⟩)
  clear x2
  walk_at "gn"
  rename_i q3 G3 n3 x3 e3 q4 G4 n4 x4 e4 q5 G5 n5 x5 e5
  refine o_nePr C (hr.tk (Tk.of (Ex.trans x3 (Ex.trans x4 x5)))) e5 (x5 _ _ (x4 _ _ e3)) (x5 _ _ e4) ?_
  replace S := S.tk (Tk.of (Ex.trans x3 (Ex.trans x4 x5)))
  clear x3 n3 e3 x4 n4 e4 x5 n5 e5 hr
  walk_at "gn"
  rename_i q G n x e
  refine u_clash (ps := ["DD", "M"]) (strsV_of e) ⟨by decide, by decide +kernel⟩ (by decide +kernel) (S.tk (Tk.of x)) hsp fun r G2 x2 hr => ?_
  replace S := S.tk (Tk.of (Ex.trans x x2))
  clear x n e
  obtain rfl := hr none (.inl ⟨rfl, nodup_DDM hy⟩)
  clear hr x2
  walk_at "gn"
  refine ite_ndt rfl ?_
  walk_at "gn"
  rename_i q G n x e
  refine u_clash (ps := ["MM", "D"]) (strsV_of e) ⟨by decide, by decide +kernel⟩ (by decide +kernel) (S.tk (Tk.of x)) hsp fun r G2 x2 hr => ?_
  replace S := S.tk (Tk.of (Ex.trans x x2))
  clear x n e
  obtain rfl := hr none (.inl ⟨rfl, nodup_MMD hy⟩)
  clear hr x2
  walk_at "gn"
  refine ite_ndt rfl ?_
  walk_at "gn"
  rename_i q G n x e
  refine u_clash (ps := ["D", "MON"]) (strsV_of e) ⟨by decide, by decide +kernel⟩ (by decide +kernel) (S.tk (Tk.of x)) hsp fun r G2 x2 hr => ?_
  replace S := S.tk (Tk.of (Ex.trans x x2))
  clear x n e
  obtain rfl := hr none (.inl ⟨rfl, nodup_DMON hy⟩)
  clear hr x2
  walk_at "gn"
  refine ite_ndt rfl ?_
  walk_at "gn"
  rename_i q G n x e
  refine u_unsorted (ps := ["MM", "DD"]) (strsV_of e) ⟨by decide, by decide +kernel⟩ (by decide +kernel) (S.tk (Tk.of x)) hsp fun r G2 x2 hr => ?_
  replace S := S.tk (Tk.of (Ex.trans x x2))
  clear x n e
  obtain rfl := optd_non (by rw [uns_MMDD hy] at hr; exact hr)
  clear hr x2
  walk_at "gn"
  refine ite_ndt rfl ?_
  walk_at "gn"
  rename_i q G n x e
  refine u_unsorted (ps := ["YYYY", "JJJ"]) (strsV_of e) ⟨by decide, by decide +kernel⟩ (by decide +kernel) (S.tk (Tk.of x)) hsp fun r G2 x2 hr => ?_
  replace S := S.tk (Tk.of (Ex.trans x x2))
  clear x n e
  obtain rfl := optd_non (by rw [uns_YJ hy] at hr; exact hr)
  clear hr x2
  walk_at "gn"
  refine ite_ndt rfl ?_
  walk_at "gn"
  rename_i q G n x e
  refine u_unsorted (ps := ["J"]) (strsV_of e) ⟨by decide, by decide +kernel⟩ (by decide +kernel) (S.tk (Tk.of x)) hsp fun r G2 x2 hr => ?_
  replace S := S.tk (Tk.of (Ex.trans x x2))
  clear x n e
  rw [uns_J hy] at hr
  clear x2
  walk_at "gn"
  rename_i q3 G3 n3 x3 e3
  refine o_neDt C (hr.tk (Tk.of x3)) e3 ?_
  replace S := S.tk (Tk.of x3)
  clear x3 n3 e3 hr
  walk_at "gn"
  rename_i q G n x e
  refine u_unsorted (ps := ["MON", "DD"]) (strsV_of e) ⟨by decide, by decide +kernel⟩ (by decide +kernel) (S.tk (Tk.of x)) hsp fun r G2 x2 hr => ?_
  replace S := S.tk (Tk.of (Ex.trans x x2))
  clear x n e
  rw [uns_MONDD hy] at hr
  clear x2
  walk_at "gn"
  rename_i q3 G3 n3 x3 e3
  refine o_neDt C (hr.tk (Tk.of x3)) e3 ?_
  replace S := S.tk (Tk.of x3)
  clear x3 n3 e3 hr
  walk_at "gn"
  rename_i q G n x e
  refine u_unsorted (ps := ["DD", "MM"]) (strsV_of e) ⟨by decide, by decide +kernel⟩ (by decide +kernel) (S.tk (Tk.of x)) hsp fun r G2 x2 hr => ?_
  replace S := S.tk (Tk.of (Ex.trans x x2))
  clear x n e
  rw [uns_DDMM hy] at hr
  clear x2
  walk_at "gn"
  rename_i q3 G3 n3 x3 e3
  refine o_neDt C (hr.tk (Tk.of x3)) e3 ?_
  replace S := S.tk (Tk.of x3)
  clear x3 n3 e3 hr
  walk_at "gn"
  rename_i q G n x e
  refine u_misread (ps := ["D", "M"]) (strsV_of e) ⟨by decide, by decide +kernel⟩ (by decide +kernel) (S.tk (Tk.of x)) hsp fun r G2 x2 hr => ?_
  replace S := S.tk (Tk.of (Ex.trans x x2))
  clear x n e
  rw [mis_DM hy] at hr
  clear x2
  walk_at "gn"
  rename_i q3 G3 n3 x3 e3
  refine o_neDt C (hr.tk (Tk.of x3)) e3 ?_
  replace S := S.tk (Tk.of x3)
  clear x3 n3 e3 hr
  walk_at "gn"
  rename_i q G n x e
  refine u_misread (ps := ["DD", "MM", "YY"]) (strsV_of e) ⟨by decide, by decide +kernel⟩ (by decide +kernel) (S.tk (Tk.of x)) hsp fun r G2 x2 hr => ?_
  replace S := S.tk (Tk.of (Ex.trans x x2))
  clear x n e
  obtain rfl := optd_non (by rw [mis_DDMMYY hy] at hr; exact hr)
  clear hr x2
  walk_at "gn"
  refine ite_ndt rfl ?_
  walk_at "gn"
  rename_i q G n x e
  refine u_misread (ps := ["J", "YYYY"]) (strsV_of e) ⟨by decide, by decide +kernel⟩ (by decide +kernel) (S.tk (Tk.of x)) hsp fun r G2 x2 hr => ?_
  replace S := S.tk (Tk.of (Ex.trans x x2))
  clear x n e
  rw [mis_JY hy] at hr
  clear x2
  walk_at "gn"
  rename_i q3 G3 n3 x3 e3
  refine o_neDt C (hr.tk (Tk.of x3)) e3 ?_
  replace S := S.tk (Tk.of x3)
  clear x3 n3 e3 hr
  walk_at "gn"
  rename_i q G n x e
  refine u_bars (ps := ["D", "M"]) (strsV_of e) ⟨by decide, by decide +kernel⟩ (by decide +kernel) (S.tk (Tk.of x)) hsp fun r G2 x2 hr => ?_
  replace S := S.tk (Tk.of (Ex.trans x x2))
  clear x n e
  rw [bars_DM hy] at hr
  clear x2
  walk_at "gn"
  rename_i q3 G3 n3 x3 e3
  refine o_neD C (dp_optL (hr.ex x3)) (dp_optL (o := some [0]) ⟨q3, rfl, n3, e3⟩) (sh_ok (sh_olD 0 _)) (sh_ok (sh_olD 0 _)) ?_
  rw [eqv_olD, decide_eq_true rfl]
  replace S := S.tk (Tk.of x3)
  clear x3 n3 e3 hr
  walk_at "gn"
  rename_i q G n x e
  refine u_bars (ps := ["YYYY", "M", "D"]) (strsV_of e) ⟨by decide, by decide +kernel⟩ (by decide +kernel) (S.tk (Tk.of x)) hsp fun r G2 x2 hr => ?_
  replace S := S.tk (Tk.of (Ex.trans x x2))
  clear x n e
  rw [bars_YMD hy] at hr
  clear x2
  walk_at "gn"
  rename_i q3 G3 n3 x3 e3
  refine o_neD C (dp_optL (hr.ex x3)) (dp_optL (o := some [1]) ⟨q3, rfl, n3, e3⟩) (sh_ok (sh_olD 0 _)) (sh_ok (sh_olD 0 _)) ?_
  rw [eqv_olD, decide_eq_true rfl]
  replace S := S.tk (Tk.of x3)
  clear x3 n3 e3 hr
  walk_at "gn"
  rename_i q G n x e
  refine u_bars (ps := ["DD", "YY"]) (strsV_of e) ⟨by decide, by decide +kernel⟩ (by decide +kernel) (S.tk (Tk.of x)) hsp fun r G2 x2 hr => ?_
  replace S := S.tk (Tk.of (Ex.trans x x2))
  clear x n e
  obtain rfl := optl_non (by rw [bars_DDYY hy] at hr; exact hr)
  clear hr x2
  walk_at "gn"
  refine ite_ndt rfl ?_
  exact ss_nil (rest11b C B c1 c2 c3 c4 c5 hy S q0)
set_option maxHeartbeats 8000000 in
theorem c_law {f : Addr} {fd : FuncData} (F : Def K mg "law" t_law f fd) (B : Bn mg) (c0 : Cal P w K mg base 1 "_law_draw" (sp_draw K)) (c6 : Cal P w K mg base 2 "_law_pick" (sp_pick K)) (c7 : Cal P w K mg base 2 "_law_dates" (sp_ldates K)) (c8 : Cal P w K mg base 11 "_law_orders" sp_orders) (c1 : Cal P w K mg base 10 "clash" (sp_clash K)) (c2 : Cal P w K mg base 9 "unsorted" (sp_unsorted K)) (c3 : Cal P w K mg base 8 "misread" (sp_misread K)) (c4 : Cal P w K mg base 10 "bars" (sp_bars K)) (c5 : Cal P w K mg base 9 "readings" (sp_readings K)) : FnOk P w K mg base CX0 12 f fd ["script"] (sp_law K) := by
  refine fok_of _ F sc_law (fun vs H Q E h => by obtain ⟨_, _, rfl, _⟩ := h; rfl) fun X H vs Q E C h => ?_
  obtain ⟨a, ns, rfl, hfz, hns, q⟩ := h
  show wSs X _ _ _ _ _ [some (.ref a), none, none, none, none, none, none, none, none] H
  refine ss_cons ?_
  walk_at "gn"
  rename_i t H0 nt y0 e0
  have h0 := law0_ofN hfz hns y0 e0
  refine u_draw h0 (by decide) fun f0 H1 hf0 hf1 hb1 ht1 => ?_
  have h1 := h0.bt hb1 ht1
  clear h0 hb1 ht1 e0 y0
  obtain ⟨y, hy0⟩ : ∃ y0, y0 = 1600 + f0 := ⟨_, rfl⟩
  have hy : Yr y := by unfold Yr; omega
  have hsp := yr_sp hy
  walk_at "gj"
  rw [← hy0]
  refine s_par2 (i := 3) (j := 4) C ?_
  walk_at "gn"
  rename_i sp H2 nsp x2 e2 sp2 H3 nsp2 x3 e3
  refine u_ldates ⟨sp2, rfl, SqT.of e3⟩ hsp fun dl H4 xs ndl x4 e4 hD4 => ?_
  have S : SpanV K H4 y y (.ref sp) := ⟨sp, rfl, SqT.of (x4 _ _ (x3 _ _ e2))⟩
  have h4 := h1.ex (Ex.trans x2 (Ex.trans x3 x4))
  have hlen : (xs.length : Int) = ylen y := by rw [hD4.len]; exact rows_len11 y
  clear h1 x2 x3 x4 e2 e3 hD4
  walk_at "gn"
  refine c_lenL C (SqL.of e4) ?_
  rw [hlen]
  walk_at "gn"
  refine ⟨_, _, rfl, ?_⟩
  show wSs X (_ :: _) _ _ _ _ [some (.ref a), some (.ref t), some (.int y), some (.ref sp), some (.bl (decide (ylen y = 366))), none, none, none, none] H4
  refine ss_cons ?_
  refine s_cut (fun σ' H' => σ' = [some (.ref a), some (.ref t), some (.int y), some (.ref sp), some (.bl (decide (ylen y = 366))), none, none, none, none] ∧ SpanV K H' y y (.ref sp)) ?_ (fun σ' H' h => by obtain ⟨rfl, S⟩ := h; exact rest11a C B c1 c2 c3 c4 c5 hy S q)
  walk_at "gn"
  rename_i ly H5 nly x5 ely
  refine u_pick (xs := (["/", "-", ".", " "] : List Str).map V.str) (h4.ex x5) (.inl (SqL.of ely)) (by decide) (town_ne (o := .lst []) h4.town nly) fun i v H6 hv hb6 ht6 => ?_
  obtain ⟨mk, hmk, rfl⟩ := paired_ix (paired_self (R := fun (z : Str) u => u = V.str z) (fun _ => rfl) ["/", "-", ".", " "]) hv
  have hmk' : mk ∈ marks := show mk ∈ (["/", "-", ".", " "] : List Str) ++ ([":"] : List Str) from List.mem_append_left _ (List.mem_of_getElem? hmk)
  replace S := (S.tk (Tk.of x5)).tk ((h4.ex x5).tk hb6)
  clear h4 x5 ely nly hb6 ht6 e4
  walk_at "gn"
  refine ⟨y, mk, rfl, hy, hmk', fun H7 x7 => ?_⟩
  walk_at "gn"
  exact ⟨rfl, S.tk (Tk.of x7)⟩
end

section
theorem all_mk {l : PySem.W.OpenLaw} {w : World} {K : PySem.W.Frag} {h : Heap} {mg : Str → Option Value} {fa f0 f1 f2 f3 f4 f5 f6 f7 f8 f9 f10 f11 f12 f13 f14 f15 f16 f17 f18 f19 f20 f21 f22 f23 f24 f25 f26 f27 f28 f29 f30 f31 f32 f33 f34 f35 f36 f37 : Addr} (X : K.In h) (G : h.Ns mainGlobals mg) (hfa : mg "law" = some (.ref fa))
    {od0 an0 od1 an1 od2 an2 od3 an3 od4 an4 od5 an5 od6 an6 od7 an7 od8 an8 od9 an9 od10 an10 od11 an11 od12 an12 od13 an13 od14 an14 od15 an15 od16 an16 od17 an17 od18 an18 od19 an19 od20 an20 od21 an21 od22 an22 od23 an23 od24 an24 od25 an25 od26 an26 od27 an27 od28 an28 od29 an29 od30 an30 od31 an31 od32 an32 od33 an33 od34 an34 od35 an35 od36 an36 od37 an37 : Option Addr} {sl0 sl1 sl2 sl3 sl4 sl5 sl6 sl7 sl8 sl9 sl10 sl11 sl12 sl13 sl14 sl15 sl16 sl17 sl18 sl19 sl20 sl21 sl22 sl23 sl24 sl25 sl26 sl27 sl28 sl29 sl30 sl31 sl32 sl33 sl34 sl35 sl36 sl37 : Array (Option Value)} {oc0 kV0 dc0 pm0 cd0 ct0 oc1 kV1 dc1 pm1 cd1 ct1 oc2 kV2 dc2 pm2 cd2 ct2 oc3 kV3 dc3 pm3 cd3 ct3 oc4 kV4 dc4 pm4 cd4 ct4 oc5 kV5 dc5 pm5 cd5 ct5 oc6 kV6 dc6 pm6 cd6 ct6 oc7 kV7 dc7 pm7 cd7 ct7 oc8 kV8 dc8 pm8 cd8 ct8 oc9 kV9 dc9 pm9 cd9 ct9 oc10 kV10 dc10 pm10 cd10 ct10 oc11 kV11 dc11 pm11 cd11 ct11 oc12 kV12 dc12 pm12 cd12 ct12 oc13 kV13 dc13 pm13 cd13 ct13 oc14 kV14 dc14 pm14 cd14 ct14 oc15 kV15 dc15 pm15 cd15 ct15 oc16 kV16 dc16 pm16 cd16 ct16 oc17 kV17 dc17 pm17 cd17 ct17 oc18 kV18 dc18 pm18 cd18 ct18 oc19 kV19 dc19 pm19 cd19 ct19 oc20 kV20 dc20 pm20 cd20 ct20 oc21 kV21 dc21 pm21 cd21 ct21 oc22 kV22 dc22 pm22 cd22 ct22 oc23 kV23 dc23 pm23 cd23 ct23 oc24 kV24 dc24 pm24 cd24 ct24 oc25 kV25 dc25 pm25 cd25 ct25 oc26 kV26 dc26 pm26 cd26 ct26 oc27 kV27 dc27 pm27 cd27 ct27 oc28 kV28 dc28 pm28 cd28 ct28 oc29 kV29 dc29 pm29 cd29 ct29 oc30 kV30 dc30 pm30 cd30 ct30 oc31 kV31 dc31 pm31 cd31 ct31 oc32 kV32 dc32 pm32 cd32 ct32 oc33 kV33 dc33 pm33 cd33 ct33 oc34 kV34 dc34 pm34 cd34 ct34 oc35 kV35 dc35 pm35 cd35 ct35 oc36 kV36 dc36 pm36 cd36 ct36 oc37 kV37 dc37 pm37 cd37 ct37 : Value}
    (a0 : PySem.W.nsIn K mainGlobals "_law_draw" = some (some (.ref f0))) (l0 : K.lookup f0 = some ⟨oc0, od0, .func (PySem.W.fnOf "_law_draw" "_law_draw" (defArgs t__law_draw) (defBody t__law_draw) (defScope t__law_draw) .none kV0 dc0 pm0 an0 cd0 ct0), sl0⟩) (c0 : PySem.W.codeIn K cd0 "_law_draw" = true) (k0 : PySem.W.keepIn K (.ref f0) = true)
    (a1 : PySem.W.nsIn K mainGlobals "_law_pick" = some (some (.ref f1))) (l1 : K.lookup f1 = some ⟨oc1, od1, .func (PySem.W.fnOf "_law_pick" "_law_pick" (defArgs t__law_pick) (defBody t__law_pick) (defScope t__law_pick) .none kV1 dc1 pm1 an1 cd1 ct1), sl1⟩) (c1 : PySem.W.codeIn K cd1 "_law_pick" = true) (k1 : PySem.W.keepIn K (.ref f1) = true)
    (a2 : PySem.W.nsIn K mainGlobals "_law_days" = some (some (.ref f2))) (l2 : K.lookup f2 = some ⟨oc2, od2, .func (PySem.W.fnOf "_law_days" "_law_days" (defArgs t__law_days) (defBody t__law_days) (defScope t__law_days) .none kV2 dc2 pm2 an2 cd2 ct2), sl2⟩) (c2 : PySem.W.codeIn K cd2 "_law_days" = true) (k2 : PySem.W.keepIn K (.ref f2) = true)
    (a3 : PySem.W.nsIn K mainGlobals "_law_dates" = some (some (.ref f3))) (l3 : K.lookup f3 = some ⟨oc3, od3, .func (PySem.W.fnOf "_law_dates" "_law_dates" (defArgs t__law_dates) (defBody t__law_dates) (defScope t__law_dates) .none kV3 dc3 pm3 an3 cd3 ct3), sl3⟩) (c3 : PySem.W.codeIn K cd3 "_law_dates" = true) (k3 : PySem.W.keepIn K (.ref f3) = true)
    (a4 : PySem.W.nsIn K mainGlobals "is_literal" = some (some (.ref f4))) (l4 : K.lookup f4 = some ⟨oc4, od4, .func (PySem.W.fnOf "is_literal" "is_literal" (defArgs t_is_literal) (defBody t_is_literal) (defScope t_is_literal) .none kV4 dc4 pm4 an4 cd4 ct4), sl4⟩) (c4 : PySem.W.codeIn K cd4 "is_literal" = true) (k4 : PySem.W.keepIn K (.ref f4) = true)
    (a5 : PySem.W.nsIn K mainGlobals "is_pattern" = some (some (.ref f5))) (l5 : K.lookup f5 = some ⟨oc5, od5, .func (PySem.W.fnOf "is_pattern" "is_pattern" (defArgs t_is_pattern) (defBody t_is_pattern) (defScope t_is_pattern) .none kV5 dc5 pm5 an5 cd5 ct5), sl5⟩) (c5 : PySem.W.codeIn K cd5 "is_pattern" = true) (k5 : PySem.W.keepIn K (.ref f5) = true)
    (a6 : PySem.W.nsIn K mainGlobals "need_pattern" = some (some (.ref f6))) (l6 : K.lookup f6 = some ⟨oc6, od6, .func (PySem.W.fnOf "need_pattern" "need_pattern" (defArgs t_need_pattern) (defBody t_need_pattern) (defScope t_need_pattern) .none kV6 dc6 pm6 an6 cd6 ct6), sl6⟩) (c6 : PySem.W.codeIn K cd6 "need_pattern" = true) (k6 : PySem.W.keepIn K (.ref f6) = true)
    (a7 : PySem.W.nsIn K mainGlobals "is_count" = some (some (.ref f7))) (l7 : K.lookup f7 = some ⟨oc7, od7, .func (PySem.W.fnOf "is_count" "is_count" (defArgs t_is_count) (defBody t_is_count) (defScope t_is_count) .none kV7 dc7 pm7 an7 cd7 ct7), sl7⟩) (c7 : PySem.W.codeIn K cd7 "is_count" = true) (k7 : PySem.W.keepIn K (.ref f7) = true)
    (a8 : PySem.W.nsIn K mainGlobals "is_span" = some (some (.ref f8))) (l8 : K.lookup f8 = some ⟨oc8, od8, .func (PySem.W.fnOf "is_span" "is_span" (defArgs t_is_span) (defBody t_is_span) (defScope t_is_span) .none kV8 dc8 pm8 an8 cd8 ct8), sl8⟩) (c8 : PySem.W.codeIn K cd8 "is_span" = true) (k8 : PySem.W.keepIn K (.ref f8) = true)
    (a9 : PySem.W.nsIn K mainGlobals "need_span" = some (some (.ref f9))) (l9 : K.lookup f9 = some ⟨oc9, od9, .func (PySem.W.fnOf "need_span" "need_span" (defArgs t_need_span) (defBody t_need_span) (defScope t_need_span) .none kV9 dc9 pm9 an9 cd9 ct9), sl9⟩) (c9 : PySem.W.codeIn K cd9 "need_span" = true) (k9 : PySem.W.keepIn K (.ref f9) = true)
    (a10 : PySem.W.nsIn K mainGlobals "is_long" = some (some (.ref f10))) (l10 : K.lookup f10 = some ⟨oc10, od10, .func (PySem.W.fnOf "is_long" "is_long" (defArgs t_is_long) (defBody t_is_long) (defScope t_is_long) .none kV10 dc10 pm10 an10 cd10 ct10), sl10⟩) (c10 : PySem.W.codeIn K cd10 "is_long" = true) (k10 : PySem.W.keepIn K (.ref f10) = true)
    (a11 : PySem.W.nsIn K mainGlobals "month_length" = some (some (.ref f11))) (l11 : K.lookup f11 = some ⟨oc11, od11, .func (PySem.W.fnOf "month_length" "month_length" (defArgs t_month_length) (defBody t_month_length) (defScope t_month_length) .none kV11 dc11 pm11 an11 cd11 ct11), sl11⟩) (c11 : PySem.W.codeIn K cd11 "month_length" = true) (k11 : PySem.W.keepIn K (.ref f11) = true)
    (a12 : PySem.W.nsIn K mainGlobals "place_in_year" = some (some (.ref f12))) (l12 : K.lookup f12 = some ⟨oc12, od12, .func (PySem.W.fnOf "place_in_year" "place_in_year" (defArgs t_place_in_year) (defBody t_place_in_year) (defScope t_place_in_year) .none kV12 dc12 pm12 an12 cd12 ct12), sl12⟩) (c12 : PySem.W.codeIn K cd12 "place_in_year" = true) (k12 : PySem.W.keepIn K (.ref f12) = true)
    (a13 : PySem.W.nsIn K mainGlobals "weekday_of" = some (some (.ref f13))) (l13 : K.lookup f13 = some ⟨oc13, od13, .func (PySem.W.fnOf "weekday_of" "weekday_of" (defArgs t_weekday_of) (defBody t_weekday_of) (defScope t_weekday_of) .none kV13 dc13 pm13 an13 cd13 ct13), sl13⟩) (c13 : PySem.W.codeIn K cd13 "weekday_of" = true) (k13 : PySem.W.keepIn K (.ref f13) = true)
    (a14 : PySem.W.nsIn K mainGlobals "value_of" = some (some (.ref f14))) (l14 : K.lookup f14 = some ⟨oc14, od14, .func (PySem.W.fnOf "value_of" "value_of" (defArgs t_value_of) (defBody t_value_of) (defScope t_value_of) .none kV14 dc14 pm14 an14 cd14 ct14), sl14⟩) (c14 : PySem.W.codeIn K cd14 "value_of" = true) (k14 : PySem.W.keepIn K (.ref f14) = true)
    (a15 : PySem.W.nsIn K mainGlobals "padded" = some (some (.ref f15))) (l15 : K.lookup f15 = some ⟨oc15, od15, .func (PySem.W.fnOf "padded" "padded" (defArgs t_padded) (defBody t_padded) (defScope t_padded) .none kV15 dc15 pm15 an15 cd15 ct15), sl15⟩) (c15 : PySem.W.codeIn K cd15 "padded" = true) (k15 : PySem.W.keepIn K (.ref f15) = true)
    (a16 : PySem.W.nsIn K mainGlobals "piece" = some (some (.ref f16))) (l16 : K.lookup f16 = some ⟨oc16, od16, .func (PySem.W.fnOf "piece" "piece" (defArgs t_piece) (defBody t_piece) (defScope t_piece) .none kV16 dc16 pm16 an16 cd16 ct16), sl16⟩) (c16 : PySem.W.codeIn K cd16 "piece" = true) (k16 : PySem.W.keepIn K (.ref f16) = true)
    (a17 : PySem.W.nsIn K mainGlobals "written" = some (some (.ref f17))) (l17 : K.lookup f17 = some ⟨oc17, od17, .func (PySem.W.fnOf "written" "written" (defArgs t_written) (defBody t_written) (defScope t_written) .none kV17 dc17 pm17 an17 cd17 ct17), sl17⟩) (c17 : PySem.W.codeIn K cd17 "written" = true) (k17 : PySem.W.keepIn K (.ref f17) = true)
    (a18 : PySem.W.nsIn K mainGlobals "dates_in" = some (some (.ref f18))) (l18 : K.lookup f18 = some ⟨oc18, od18, .func (PySem.W.fnOf "dates_in" "dates_in" (defArgs t_dates_in) (defBody t_dates_in) (defScope t_dates_in) .none kV18 dc18 pm18 an18 cd18 ct18), sl18⟩) (c18 : PySem.W.codeIn K cd18 "dates_in" = true) (k18 : PySem.W.keepIn K (.ref f18) = true)
    (a19 : PySem.W.nsIn K mainGlobals "table" = some (some (.ref f19))) (l19 : K.lookup f19 = some ⟨oc19, od19, .func (PySem.W.fnOf "table" "table" (defArgs t_table) (defBody t_table) (defScope t_table) .none kV19 dc19 pm19 an19 cd19 ct19), sl19⟩) (c19 : PySem.W.codeIn K cd19 "table" = true) (k19 : PySem.W.keepIn K (.ref f19) = true)
    (a20 : PySem.W.nsIn K mainGlobals "confused" = some (some (.ref f20))) (l20 : K.lookup f20 = some ⟨oc20, od20, .func (PySem.W.fnOf "confused" "confused" (defArgs t_confused) (defBody t_confused) (defScope t_confused) .none kV20 dc20 pm20 an20 cd20 ct20), sl20⟩) (c20 : PySem.W.codeIn K cd20 "confused" = true) (k20 : PySem.W.keepIn K (.ref f20) = true)
    (a21 : PySem.W.nsIn K mainGlobals "need_patterns" = some (some (.ref f21))) (l21 : K.lookup f21 = some ⟨oc21, od21, .func (PySem.W.fnOf "need_patterns" "need_patterns" (defArgs t_need_patterns) (defBody t_need_patterns) (defScope t_need_patterns) .none kV21 dc21 pm21 an21 cd21 ct21), sl21⟩) (c21 : PySem.W.codeIn K cd21 "need_patterns" = true) (k21 : PySem.W.keepIn K (.ref f21) = true)
    (a22 : PySem.W.nsIn K mainGlobals "is_telling" = some (some (.ref f22))) (l22 : K.lookup f22 = some ⟨oc22, od22, .func (PySem.W.fnOf "is_telling" "is_telling" (defArgs t_is_telling) (defBody t_is_telling) (defScope t_is_telling) .none kV22 dc22 pm22 an22 cd22 ct22), sl22⟩) (c22 : PySem.W.codeIn K cd22 "is_telling" = true) (k22 : PySem.W.keepIn K (.ref f22) = true)
    (a23 : PySem.W.nsIn K mainGlobals "telling" = some (some (.ref f23))) (l23 : K.lookup f23 = some ⟨oc23, od23, .func (PySem.W.fnOf "telling" "telling" (defArgs t_telling) (defBody t_telling) (defScope t_telling) .none kV23 dc23 pm23 an23 cd23 ct23), sl23⟩) (c23 : PySem.W.codeIn K cd23 "telling" = true) (k23 : PySem.W.keepIn K (.ref f23) = true)
    (a24 : PySem.W.nsIn K mainGlobals "unsorted" = some (some (.ref f24))) (l24 : K.lookup f24 = some ⟨oc24, od24, .func (PySem.W.fnOf "unsorted" "unsorted" (defArgs t_unsorted) (defBody t_unsorted) (defScope t_unsorted) .none kV24 dc24 pm24 an24 cd24 ct24), sl24⟩) (c24 : PySem.W.codeIn K cd24 "unsorted" = true) (k24 : PySem.W.keepIn K (.ref f24) = true)
    (a25 : PySem.W.nsIn K mainGlobals "clash_of" = some (some (.ref f25))) (l25 : K.lookup f25 = some ⟨oc25, od25, .func (PySem.W.fnOf "clash_of" "clash_of" (defArgs t_clash_of) (defBody t_clash_of) (defScope t_clash_of) .none kV25 dc25 pm25 an25 cd25 ct25), sl25⟩) (c25 : PySem.W.codeIn K cd25 "clash_of" = true) (k25 : PySem.W.keepIn K (.ref f25) = true)
    (a26 : PySem.W.nsIn K mainGlobals "clash" = some (some (.ref f26))) (l26 : K.lookup f26 = some ⟨oc26, od26, .func (PySem.W.fnOf "clash" "clash" (defArgs t_clash) (defBody t_clash) (defScope t_clash) .none kV26 dc26 pm26 an26 cd26 ct26), sl26⟩) (c26 : PySem.W.codeIn K cd26 "clash" = true) (k26 : PySem.W.keepIn K (.ref f26) = true)
    (a27 : PySem.W.nsIn K mainGlobals "widths" = some (some (.ref f27))) (l27 : K.lookup f27 = some ⟨oc27, od27, .func (PySem.W.fnOf "widths" "widths" (defArgs t_widths) (defBody t_widths) (defScope t_widths) .none kV27 dc27 pm27 an27 cd27 ct27), sl27⟩) (c27 : PySem.W.codeIn K cd27 "widths" = true) (k27 : PySem.W.keepIn K (.ref f27) = true)
    (a28 : PySem.W.nsIn K mainGlobals "_law_orders" = some (some (.ref f28))) (l28 : K.lookup f28 = some ⟨oc28, od28, .func (PySem.W.fnOf "_law_orders" "_law_orders" (defArgs t__law_orders) (defBody t__law_orders) (defScope t__law_orders) .none kV28 dc28 pm28 an28 cd28 ct28), sl28⟩) (c28 : PySem.W.codeIn K cd28 "_law_orders" = true) (k28 : PySem.W.keepIn K (.ref f28) = true)
    (a29 : PySem.W.nsIn K mainGlobals "taken" = some (some (.ref f29))) (l29 : K.lookup f29 = some ⟨oc29, od29, .func (PySem.W.fnOf "taken" "taken" (defArgs t_taken) (defBody t_taken) (defScope t_taken) .none kV29 dc29 pm29 an29 cd29 ct29), sl29⟩) (c29 : PySem.W.codeIn K cd29 "taken" = true) (k29 : PySem.W.keepIn K (.ref f29) = true)
    (a30 : PySem.W.nsIn K mainGlobals "greedy_result" = some (some (.ref f30))) (l30 : K.lookup f30 = some ⟨oc30, od30, .func (PySem.W.fnOf "greedy_result" "greedy_result" (defArgs t_greedy_result) (defBody t_greedy_result) (defScope t_greedy_result) .none kV30 dc30 pm30 an30 cd30 ct30), sl30⟩) (c30 : PySem.W.codeIn K cd30 "greedy_result" = true) (k30 : PySem.W.keepIn K (.ref f30) = true)
    (a31 : PySem.W.nsIn K mainGlobals "misread" = some (some (.ref f31))) (l31 : K.lookup f31 = some ⟨oc31, od31, .func (PySem.W.fnOf "misread" "misread" (defArgs t_misread) (defBody t_misread) (defScope t_misread) .none kV31 dc31 pm31 an31 cd31 ct31), sl31⟩) (c31 : PySem.W.codeIn K cd31 "misread" = true) (k31 : PySem.W.keepIn K (.ref f31) = true)
    (a32 : PySem.W.nsIn K mainGlobals "with_bars" = some (some (.ref f32))) (l32 : K.lookup f32 = some ⟨oc32, od32, .func (PySem.W.fnOf "with_bars" "with_bars" (defArgs t_with_bars) (defBody t_with_bars) (defScope t_with_bars) .none kV32 dc32 pm32 an32 cd32 ct32), sl32⟩) (c32 : PySem.W.codeIn K cd32 "with_bars" = true) (k32 : PySem.W.keepIn K (.ref f32) = true)
    (a33 : PySem.W.nsIn K mainGlobals "choices" = some (some (.ref f33))) (l33 : K.lookup f33 = some ⟨oc33, od33, .func (PySem.W.fnOf "choices" "choices" (defArgs t_choices) (defBody t_choices) (defScope t_choices) .none kV33 dc33 pm33 an33 cd33 ct33), sl33⟩) (c33 : PySem.W.codeIn K cd33 "choices" = true) (k33 : PySem.W.keepIn K (.ref f33) = true)
    (a34 : PySem.W.nsIn K mainGlobals "bars" = some (some (.ref f34))) (l34 : K.lookup f34 = some ⟨oc34, od34, .func (PySem.W.fnOf "bars" "bars" (defArgs t_bars) (defBody t_bars) (defScope t_bars) .none kV34 dc34 pm34 an34 cd34 ct34), sl34⟩) (c34 : PySem.W.codeIn K cd34 "bars" = true) (k34 : PySem.W.keepIn K (.ref f34) = true)
    (a35 : PySem.W.nsIn K mainGlobals "need_text" = some (some (.ref f35))) (l35 : K.lookup f35 = some ⟨oc35, od35, .func (PySem.W.fnOf "need_text" "need_text" (defArgs t_need_text) (defBody t_need_text) (defScope t_need_text) .none kV35 dc35 pm35 an35 cd35 ct35), sl35⟩) (c35 : PySem.W.codeIn K cd35 "need_text" = true) (k35 : PySem.W.keepIn K (.ref f35) = true)
    (a36 : PySem.W.nsIn K mainGlobals "readings" = some (some (.ref f36))) (l36 : K.lookup f36 = some ⟨oc36, od36, .func (PySem.W.fnOf "readings" "readings" (defArgs t_readings) (defBody t_readings) (defScope t_readings) .none kV36 dc36 pm36 an36 cd36 ct36), sl36⟩) (c36 : PySem.W.codeIn K cd36 "readings" = true) (k36 : PySem.W.keepIn K (.ref f36) = true)
    (a37 : PySem.W.nsIn K mainGlobals "law" = some (some (.ref f37))) (l37 : K.lookup f37 = some ⟨oc37, od37, .func (PySem.W.fnOf "law" "law" (defArgs t_law) (defBody t_law) (defScope t_law) .none kV37 dc37 pm37 an37 cd37 ct37), sl37⟩) (c37 : PySem.W.codeIn K cd37 "law" = true) (k37 : PySem.W.keepIn K (.ref f37) = true)
    {tk0 : Tok} (g0 : PySem.W.nsIn K mainGlobals "LITERAL" = some (some (.str " -/.,:" tk0)))
    {ad1 : Addr} {dd1 : Option Addr} {nn1 : Nat} {ss1 : Array (Option Value)} {tk1_0 tk1_1 tk1_2 tk1_3 tk1_4 tk1_5 tk1_6 tk1_7 tk1_8 tk1_9 : Tok} (g1 : PySem.W.nsIn K mainGlobals "FIELDS" = some (some (.ref ad1))) (q1 : K.lookup ad1 = some ⟨.type "tuple", dd1, .seq #[.str "D" tk1_0, .str "DD" tk1_1, .str "M" tk1_2, .str "MM" tk1_3, .str "MON" tk1_4, .str "YY" tk1_5, .str "YYYY" tk1_6, .str "J" tk1_7, .str "JJJ" tk1_8, .str "WD" tk1_9] nn1, ss1⟩)
    {tk2 : Tok} (g2 : PySem.W.nsIn K mainGlobals "PARTS" = some (some (.int (7) tk2)))
    {tk3 : Tok} (g3 : PySem.W.nsIn K mainGlobals "FIRST" = some (some (.int (1600) tk3)))
    {tk4 : Tok} (g4 : PySem.W.nsIn K mainGlobals "LAST" = some (some (.int (2399) tk4)))
    {tk5 : Tok} (g5 : PySem.W.nsIn K mainGlobals "YEARS" = some (some (.int (12) tk5)))
    {ad6 : Addr} {dd6 : Option Addr} {nn6 : Nat} {ss6 : Array (Option Value)} {tk6_0 tk6_1 tk6_2 tk6_3 tk6_4 tk6_5 tk6_6 : Tok} (g6 : PySem.W.nsIn K mainGlobals "WEEKDAYS" = some (some (.ref ad6))) (q6 : K.lookup ad6 = some ⟨.type "tuple", dd6, .seq #[.str "mon" tk6_0, .str "tue" tk6_1, .str "wed" tk6_2, .str "thu" tk6_3, .str "fri" tk6_4, .str "sat" tk6_5, .str "sun" tk6_6] nn6, ss6⟩)
    {ad7 : Addr} {dd7 : Option Addr} {nn7 : Nat} {ss7 : Array (Option Value)} {tk7_0 tk7_1 tk7_2 tk7_3 tk7_4 tk7_5 tk7_6 tk7_7 tk7_8 tk7_9 tk7_10 tk7_11 : Tok} (g7 : PySem.W.nsIn K mainGlobals "MONTHS" = some (some (.ref ad7))) (q7 : K.lookup ad7 = some ⟨.type "tuple", dd7, .seq #[.str "jan" tk7_0, .str "feb" tk7_1, .str "mar" tk7_2, .str "apr" tk7_3, .str "may" tk7_4, .str "jun" tk7_5, .str "jul" tk7_6, .str "aug" tk7_7, .str "sep" tk7_8, .str "oct" tk7_9, .str "nov" tk7_10, .str "dec" tk7_11] nn7, ss7⟩)
    {tk8 : Tok} (g8 : PySem.W.nsIn K mainGlobals "MOST" = some (some (.int (5) tk8)))
    {tk9 : Tok} (g9 : PySem.W.nsIn K mainGlobals "DIGITS" = some (some (.str "0123456789" tk9)))
    {ad10 : Addr} {es10 : Array DictEntry} {nn10 : Nat} {tk10_0 tk10_1 tk10_2 tk10_3 tk10_4 tk10_5 tk10_6 tk10_7 : Tok} (g10 : PySem.W.nsIn K mainGlobals "LONGEST" = some (some (.ref ad10))) (q10 : K.lookup ad10 = some ⟨.type "dict", none, .dict es10 nn10, #[]⟩) (kk10 : PySem.W.KeysLit w.params es10.toList)
    (it10_0 : PySem.W.nsIn K ad10 "D" = some (some (.int (2) tk10_0)))
    (it10_1 : PySem.W.nsIn K ad10 "DD" = some (some (.int (2) tk10_1)))
    (it10_2 : PySem.W.nsIn K ad10 "M" = some (some (.int (2) tk10_2)))
    (it10_3 : PySem.W.nsIn K ad10 "MM" = some (some (.int (2) tk10_3)))
    (it10_4 : PySem.W.nsIn K ad10 "YY" = some (some (.int (2) tk10_4)))
    (it10_5 : PySem.W.nsIn K ad10 "YYYY" = some (some (.int (4) tk10_5)))
    (it10_6 : PySem.W.nsIn K ad10 "J" = some (some (.int (3) tk10_6)))
    (it10_7 : PySem.W.nsIn K ad10 "JJJ" = some (some (.int (3) tk10_7)))
    (z_len : PySem.W.nsIn K mainGlobals "len" = some none)
    (z_isinstance : PySem.W.nsIn K mainGlobals "isinstance" = some none)
    (z_all : PySem.W.nsIn K mainGlobals "all" = some none)
    (z_any : PySem.W.nsIn K mainGlobals "any" = some none)
    (z_sum : PySem.W.nsIn K mainGlobals "sum" = some none)
    (z_min : PySem.W.nsIn K mainGlobals "min" = some none)
    (z_max : PySem.W.nsIn K mainGlobals "max" = some none)
    (z_sorted : PySem.W.nsIn K mainGlobals "sorted" = some none)
    (z_int : PySem.W.nsIn K mainGlobals "int" = some none)
    (z_bool : PySem.W.nsIn K mainGlobals "bool" = some none)
    (z_tuple : PySem.W.nsIn K mainGlobals "tuple" = some none)
    (z_str : PySem.W.nsIn K mainGlobals "str" = some none)
    (z_list : PySem.W.nsIn K mainGlobals "list" = some none)
    (z_dict : PySem.W.nsIn K mainGlobals "dict" = some none)
    (z_set : PySem.W.nsIn K mainGlobals "set" = some none)
    (z_range : PySem.W.nsIn K mainGlobals "range" = some none)
    (z_enumerate : PySem.W.nsIn K mainGlobals "enumerate" = some none)
    (z_zip : PySem.W.nsIn K mainGlobals "zip" = some none)
    : ∃ fd : FuncData, (∀ (s : Shared) (v : Value), BindsTo s fd ⟨[v], []⟩ [("script", v)]) ∧ ∀ base : Heap, K.In base → base.Ns mainGlobals mg → FnOk l.prog w K mg base CX0 12 fa fd ["script"] (sp_law K) := by
  have e := hfa.symm.trans (PySem.W.mg_of X G a37)
  cases e
  have B : Bn mg := ⟨PySem.W.mg_none_of X G z_len, PySem.W.mg_none_of X G z_isinstance, PySem.W.mg_none_of X G z_all, PySem.W.mg_none_of X G z_any, PySem.W.mg_none_of X G z_sum, PySem.W.mg_none_of X G z_min, PySem.W.mg_none_of X G z_max, PySem.W.mg_none_of X G z_sorted, PySem.W.mg_none_of X G z_int, PySem.W.mg_none_of X G z_bool, PySem.W.mg_none_of X G z_tuple, PySem.W.mg_none_of X G z_str, PySem.W.mg_none_of X G z_list, PySem.W.mg_none_of X G z_dict, PySem.W.mg_none_of X G z_set, PySem.W.mg_none_of X G z_range, PySem.W.mg_none_of X G z_enumerate, PySem.W.mg_none_of X G z_zip⟩
  have G0 : GV mg "LITERAL" (.str litText) := ⟨_, PySem.W.mg_of X G g0, ⟨_, rfl⟩⟩
  have G1 : GT K mg "FIELDS" (fields.map V.str) := ⟨_, PySem.W.mg_of X G g1, .inr ⟨_, _, _, q1, rfl, rfl, (by show 10 ≤ sizeLine; decide), .cons ⟨_, rfl⟩ (.cons ⟨_, rfl⟩ (.cons ⟨_, rfl⟩ (.cons ⟨_, rfl⟩ (.cons ⟨_, rfl⟩ (.cons ⟨_, rfl⟩ (.cons ⟨_, rfl⟩ (.cons ⟨_, rfl⟩ (.cons ⟨_, rfl⟩ (.cons ⟨_, rfl⟩ (.nil))))))))))⟩⟩
  have G2 : GV mg "PARTS" (.int 7) := ⟨_, PySem.W.mg_of X G g2, ⟨_, rfl⟩⟩
  have G3 : GV mg "FIRST" (.int 1600) := ⟨_, PySem.W.mg_of X G g3, ⟨_, rfl⟩⟩
  have G4 : GV mg "LAST" (.int 2399) := ⟨_, PySem.W.mg_of X G g4, ⟨_, rfl⟩⟩
  have G5 : GV mg "YEARS" (.int 12) := ⟨_, PySem.W.mg_of X G g5, ⟨_, rfl⟩⟩
  have G6 : GT K mg "WEEKDAYS" (wdNames.map V.str) := ⟨_, PySem.W.mg_of X G g6, .inr ⟨_, _, _, q6, rfl, rfl, (by show 7 ≤ sizeLine; decide), .cons ⟨_, rfl⟩ (.cons ⟨_, rfl⟩ (.cons ⟨_, rfl⟩ (.cons ⟨_, rfl⟩ (.cons ⟨_, rfl⟩ (.cons ⟨_, rfl⟩ (.cons ⟨_, rfl⟩ (.nil)))))))⟩⟩
  have G7 : GT K mg "MONTHS" (monNames.map V.str) := ⟨_, PySem.W.mg_of X G g7, .inr ⟨_, _, _, q7, rfl, rfl, (by show 12 ≤ sizeLine; decide), .cons ⟨_, rfl⟩ (.cons ⟨_, rfl⟩ (.cons ⟨_, rfl⟩ (.cons ⟨_, rfl⟩ (.cons ⟨_, rfl⟩ (.cons ⟨_, rfl⟩ (.cons ⟨_, rfl⟩ (.cons ⟨_, rfl⟩ (.cons ⟨_, rfl⟩ (.cons ⟨_, rfl⟩ (.cons ⟨_, rfl⟩ (.cons ⟨_, rfl⟩ (.nil))))))))))))⟩⟩
  have G8 : GV mg "MOST" (.int 5) := ⟨_, PySem.W.mg_of X G g8, ⟨_, rfl⟩⟩
  have G9 : GV mg "DIGITS" (.str "0123456789") := ⟨_, PySem.W.mg_of X G g9, ⟨_, rfl⟩⟩
  have G10 : GD K w mg "LONGEST" [(("D" : Str), (2 : Int)), ("DD", 2), ("M", 2), ("MM", 2), ("YY", 2), ("YYYY", 4), ("J", 3), ("JJJ", 3)] := ⟨_, PySem.W.mg_of X G g10, fun k v h => by
    simp only [List.mem_cons, List.not_mem_nil, or_false, Prod.mk.injEq] at h
    rcases h with ⟨rfl, rfl⟩ | ⟨rfl, rfl⟩ | ⟨rfl, rfl⟩ | ⟨rfl, rfl⟩ | ⟨rfl, rfl⟩ | ⟨rfl, rfl⟩ | ⟨rfl, rfl⟩ | ⟨rfl, rfl⟩
    · exact ⟨_, _, _, q10, kk10, it10_0, ⟨_, rfl⟩⟩
    · exact ⟨_, _, _, q10, kk10, it10_1, ⟨_, rfl⟩⟩
    · exact ⟨_, _, _, q10, kk10, it10_2, ⟨_, rfl⟩⟩
    · exact ⟨_, _, _, q10, kk10, it10_3, ⟨_, rfl⟩⟩
    · exact ⟨_, _, _, q10, kk10, it10_4, ⟨_, rfl⟩⟩
    · exact ⟨_, _, _, q10, kk10, it10_5, ⟨_, rfl⟩⟩
    · exact ⟨_, _, _, q10, kk10, it10_6, ⟨_, rfl⟩⟩
    · exact ⟨_, _, _, q10, kk10, it10_7, ⟨_, rfl⟩⟩⟩
  have F0 : Def K mg "_law_draw" t__law_draw _ _ := ⟨fun_mk (st := t__law_draw) l0 c0 k0, PySem.W.mg_of X G a0⟩
  have b0 := F0.fn.binds (ps := ["script", "town", "many"]) fun _ _ _ _ _ _ us hl => match us, hl with | [_, _, _], _ => rfl
  have F1 : Def K mg "_law_pick" t__law_pick _ _ := ⟨fun_mk (st := t__law_pick) l1 c1 k1, PySem.W.mg_of X G a1⟩
  have b1 := F1.fn.binds (ps := ["script", "town", "some"]) fun _ _ _ _ _ _ us hl => match us, hl with | [_, _, _], _ => rfl
  have F2 : Def K mg "_law_days" t__law_days _ _ := ⟨fun_mk (st := t__law_days) l2 c2 k2, PySem.W.mg_of X G a2⟩
  have b2 := F2.fn.binds (ps := ["year"]) fun _ _ _ _ _ _ us hl => match us, hl with | [_], _ => rfl
  have F3 : Def K mg "_law_dates" t__law_dates _ _ := ⟨fun_mk (st := t__law_dates) l3 c3 k3, PySem.W.mg_of X G a3⟩
  have b3 := F3.fn.binds (ps := ["span"]) fun _ _ _ _ _ _ us hl => match us, hl with | [_], _ => rfl
  have F4 : Def K mg "is_literal" t_is_literal _ _ := ⟨fun_mk (st := t_is_literal) l4 c4 k4, PySem.W.mg_of X G a4⟩
  have b4 := F4.fn.binds (ps := ["value"]) fun _ _ _ _ _ _ us hl => match us, hl with | [_], _ => rfl
  have F5 : Def K mg "is_pattern" t_is_pattern _ _ := ⟨fun_mk (st := t_is_pattern) l5 c5 k5, PySem.W.mg_of X G a5⟩
  have b5 := F5.fn.binds (ps := ["value"]) fun _ _ _ _ _ _ us hl => match us, hl with | [_], _ => rfl
  have F6 : Def K mg "need_pattern" t_need_pattern _ _ := ⟨fun_mk (st := t_need_pattern) l6 c6 k6, PySem.W.mg_of X G a6⟩
  have b6 := F6.fn.binds (ps := ["value"]) fun _ _ _ _ _ _ us hl => match us, hl with | [_], _ => rfl
  have F7 : Def K mg "is_count" t_is_count _ _ := ⟨fun_mk (st := t_is_count) l7 c7 k7, PySem.W.mg_of X G a7⟩
  have b7 := F7.fn.binds (ps := ["value", "least", "most"]) fun _ _ _ _ _ _ us hl => match us, hl with | [_, _, _], _ => rfl
  have F8 : Def K mg "is_span" t_is_span _ _ := ⟨fun_mk (st := t_is_span) l8 c8 k8, PySem.W.mg_of X G a8⟩
  have b8 := F8.fn.binds (ps := ["value"]) fun _ _ _ _ _ _ us hl => match us, hl with | [_], _ => rfl
  have F9 : Def K mg "need_span" t_need_span _ _ := ⟨fun_mk (st := t_need_span) l9 c9 k9, PySem.W.mg_of X G a9⟩
  have b9 := F9.fn.binds (ps := ["value"]) fun _ _ _ _ _ _ us hl => match us, hl with | [_], _ => rfl
  have F10 : Def K mg "is_long" t_is_long _ _ := ⟨fun_mk (st := t_is_long) l10 c10 k10, PySem.W.mg_of X G a10⟩
  have b10 := F10.fn.binds (ps := ["year"]) fun _ _ _ _ _ _ us hl => match us, hl with | [_], _ => rfl
  have F11 : Def K mg "month_length" t_month_length _ _ := ⟨fun_mk (st := t_month_length) l11 c11 k11, PySem.W.mg_of X G a11⟩
  have b11 := F11.fn.binds (ps := ["year", "month"]) fun _ _ _ _ _ _ us hl => match us, hl with | [_, _], _ => rfl
  have F12 : Def K mg "place_in_year" t_place_in_year _ _ := ⟨fun_mk (st := t_place_in_year) l12 c12 k12, PySem.W.mg_of X G a12⟩
  have b12 := F12.fn.binds (ps := ["date"]) fun _ _ _ _ _ _ us hl => match us, hl with | [_], _ => rfl
  have F13 : Def K mg "weekday_of" t_weekday_of _ _ := ⟨fun_mk (st := t_weekday_of) l13 c13 k13, PySem.W.mg_of X G a13⟩
  have b13 := F13.fn.binds (ps := ["date"]) fun _ _ _ _ _ _ us hl => match us, hl with | [_], _ => rfl
  have F14 : Def K mg "value_of" t_value_of _ _ := ⟨fun_mk (st := t_value_of) l14 c14 k14, PySem.W.mg_of X G a14⟩
  have b14 := F14.fn.binds (ps := ["part", "date"]) fun _ _ _ _ _ _ us hl => match us, hl with | [_, _], _ => rfl
  have F15 : Def K mg "padded" t_padded _ _ := ⟨fun_mk (st := t_padded) l15 c15 k15, PySem.W.mg_of X G a15⟩
  have b15 := F15.fn.binds (ps := ["number", "digits"]) fun _ _ _ _ _ _ us hl => match us, hl with | [_, _], _ => rfl
  have F16 : Def K mg "piece" t_piece _ _ := ⟨fun_mk (st := t_piece) l16 c16 k16, PySem.W.mg_of X G a16⟩
  have b16 := F16.fn.binds (ps := ["part", "date"]) fun _ _ _ _ _ _ us hl => match us, hl with | [_, _], _ => rfl
  have F17 : Def K mg "written" t_written _ _ := ⟨fun_mk (st := t_written) l17 c17 k17, PySem.W.mg_of X G a17⟩
  have b17 := F17.fn.binds (ps := ["pattern", "date"]) fun _ _ _ _ _ _ us hl => match us, hl with | [_, _], _ => rfl
  have F18 : Def K mg "dates_in" t_dates_in _ _ := ⟨fun_mk (st := t_dates_in) l18 c18 k18, PySem.W.mg_of X G a18⟩
  have b18 := F18.fn.binds (ps := ["span"]) fun _ _ _ _ _ _ us hl => match us, hl with | [_], _ => rfl
  have F19 : Def K mg "table" t_table _ _ := ⟨fun_mk (st := t_table) l19 c19 k19, PySem.W.mg_of X G a19⟩
  have b19 := F19.fn.binds (ps := ["pattern", "span"]) fun _ _ _ _ _ _ us hl => match us, hl with | [_, _], _ => rfl
  have F20 : Def K mg "confused" t_confused _ _ := ⟨fun_mk (st := t_confused) l20 c20 k20, PySem.W.mg_of X G a20⟩
  have b20 := F20.fn.binds (ps := ["pattern", "other", "span"]) fun _ _ _ _ _ _ us hl => match us, hl with | [_, _, _], _ => rfl
  have F21 : Def K mg "need_patterns" t_need_patterns _ _ := ⟨fun_mk (st := t_need_patterns) l21 c21 k21, PySem.W.mg_of X G a21⟩
  have b21 := F21.fn.binds (ps := ["value"]) fun _ _ _ _ _ _ us hl => match us, hl with | [_], _ => rfl
  have F22 : Def K mg "is_telling" t_is_telling _ _ := ⟨fun_mk (st := t_is_telling) l22 c22 k22, PySem.W.mg_of X G a22⟩
  have b22 := F22.fn.binds (ps := ["patterns", "tables", "date"]) fun _ _ _ _ _ _ us hl => match us, hl with | [_, _, _], _ => rfl
  have F23 : Def K mg "telling" t_telling _ _ := ⟨fun_mk (st := t_telling) l23 c23 k23, PySem.W.mg_of X G a23⟩
  have b23 := F23.fn.binds (ps := ["patterns", "span"]) fun _ _ _ _ _ _ us hl => match us, hl with | [_, _], _ => rfl
  have F24 : Def K mg "unsorted" t_unsorted _ _ := ⟨fun_mk (st := t_unsorted) l24 c24 k24, PySem.W.mg_of X G a24⟩
  have b24 := F24.fn.binds (ps := ["pattern", "span"]) fun _ _ _ _ _ _ us hl => match us, hl with | [_, _], _ => rfl
  have F25 : Def K mg "clash_of" t_clash_of _ _ := ⟨fun_mk (st := t_clash_of) l25 c25 k25, PySem.W.mg_of X G a25⟩
  have b25 := F25.fn.binds (ps := ["pattern", "span"]) fun _ _ _ _ _ _ us hl => match us, hl with | [_, _], _ => rfl
  have F26 : Def K mg "clash" t_clash _ _ := ⟨fun_mk (st := t_clash) l26 c26 k26, PySem.W.mg_of X G a26⟩
  have b26 := F26.fn.binds (ps := ["pattern", "span"]) fun _ _ _ _ _ _ us hl => match us, hl with | [_, _], _ => rfl
  have F27 : Def K mg "widths" t_widths _ _ := ⟨fun_mk (st := t_widths) l27 c27 k27, PySem.W.mg_of X G a27⟩
  have b27 := F27.fn.binds (ps := ["pattern", "span"]) fun _ _ _ _ _ _ us hl => match us, hl with | [_, _], _ => rfl
  have F28 : Def K mg "_law_orders" t__law_orders _ _ := ⟨fun_mk (st := t__law_orders) l28 c28 k28, PySem.W.mg_of X G a28⟩
  have b28 := F28.fn.binds (ps := ["year", "mark"]) fun _ _ _ _ _ _ us hl => match us, hl with | [_, _], _ => rfl
  have F29 : Def K mg "taken" t_taken _ _ := ⟨fun_mk (st := t_taken) l29 c29 k29, PySem.W.mg_of X G a29⟩
  have b29 := F29.fn.binds (ps := ["part", "text", "at"]) fun _ _ _ _ _ _ us hl => match us, hl with | [_, _, _], _ => rfl
  have F30 : Def K mg "greedy_result" t_greedy_result _ _ := ⟨fun_mk (st := t_greedy_result) l30 c30 k30, PySem.W.mg_of X G a30⟩
  have b30 := F30.fn.binds (ps := ["pattern", "text"]) fun _ _ _ _ _ _ us hl => match us, hl with | [_, _], _ => rfl
  have F31 : Def K mg "misread" t_misread _ _ := ⟨fun_mk (st := t_misread) l31 c31 k31, PySem.W.mg_of X G a31⟩
  have b31 := F31.fn.binds (ps := ["pattern", "span"]) fun _ _ _ _ _ _ us hl => match us, hl with | [_, _], _ => rfl
  have F32 : Def K mg "with_bars" t_with_bars _ _ := ⟨fun_mk (st := t_with_bars) l32 c32 k32, PySem.W.mg_of X G a32⟩
  have b32 := F32.fn.binds (ps := ["pattern", "gaps"]) fun _ _ _ _ _ _ us hl => match us, hl with | [_, _], _ => rfl
  have F33 : Def K mg "choices" t_choices _ _ := ⟨fun_mk (st := t_choices) l33 c33 k33, PySem.W.mg_of X G a33⟩
  have b33 := F33.fn.binds (ps := ["many", "size", "start"]) fun _ _ _ _ _ _ us hl => match us, hl with | [_, _, _], _ => rfl
  have F34 : Def K mg "bars" t_bars _ _ := ⟨fun_mk (st := t_bars) l34 c34 k34, PySem.W.mg_of X G a34⟩
  have b34 := F34.fn.binds (ps := ["pattern", "span"]) fun _ _ _ _ _ _ us hl => match us, hl with | [_, _], _ => rfl
  have F35 : Def K mg "need_text" t_need_text _ _ := ⟨fun_mk (st := t_need_text) l35 c35 k35, PySem.W.mg_of X G a35⟩
  have b35 := F35.fn.binds (ps := ["value"]) fun _ _ _ _ _ _ us hl => match us, hl with | [_], _ => rfl
  have F36 : Def K mg "readings" t_readings _ _ := ⟨fun_mk (st := t_readings) l36 c36 k36, PySem.W.mg_of X G a36⟩
  have b36 := F36.fn.binds (ps := ["pattern", "span", "text"]) fun _ _ _ _ _ _ us hl => match us, hl with | [_, _, _], _ => rfl
  have F37 : Def K mg "law" t_law _ _ := ⟨fun_mk (st := t_law) l37 c37 k37, PySem.W.mg_of X G a37⟩
  have b37 := F37.fn.binds (ps := ["script"]) fun _ _ _ _ _ _ us hl => match us, hl with | [_], _ => rfl
  refine ⟨PySem.W.fnOf "law" "law" (defArgs t_law) (defBody t_law) (defScope t_law) .none kV37 dc37 pm37 an37 cd37 ct37, fun s v => .of_eq rfl, fun base _ _ => ?_⟩
  have K0 := c_law_draw (P := l.prog) (w := w) (base := base) F0 b0 B
  have K1 := c_law_pick (P := l.prog) (w := w) (base := base) F1 b1 B K0
  have K2 := c_law_days (P := l.prog) (w := w) (base := base) F2 b2
  have K3 := c_law_dates (P := l.prog) (w := w) (base := base) F3 b3 B K2
  have K4 := c_is_literal (P := l.prog) (w := w) (base := base) F4 b4 B G0
  have K5 := c_is_pattern (P := l.prog) (w := w) (base := base) F5 b5 B K4 G1 G2
  have K6 := c_need_pattern (P := l.prog) (w := w) (base := base) F6 b6 K5
  have K7 := c_is_count (P := l.prog) (w := w) (base := base) F7 b7 B
  have K8 := c_is_span (P := l.prog) (w := w) (base := base) F8 b8 B K7 G3 G4 G5
  have K9 := c_need_span (P := l.prog) (w := w) (base := base) F9 b9 K8
  have K10 := c_is_long (P := l.prog) (w := w) (base := base) F10 b10
  have K11 := c_month_length (P := l.prog) (w := w) (base := base) F11 b11 K10
  have K12 := c_place_in_year (P := l.prog) (w := w) (base := base) F12 b12 B K11
  have K13 := c_weekday_of (P := l.prog) (w := w) (base := base) F13 b13 K12 G6
  have K14 := c_value_of (P := l.prog) (w := w) (base := base) F14 b14 B K13 K12 G7
  have K15 := c_padded (P := l.prog) (w := w) (base := base) F15 b15 B
  have K16 := c_piece (P := l.prog) (w := w) (base := base) F16 b16 B K14 K15 G1
  have K17 := c_written (P := l.prog) (w := w) (base := base) F17 b17 B K16
  have K18 := c_dates_in (P := l.prog) (w := w) (base := base) F18 b18 B K11
  have K19 := c_table (P := l.prog) (w := w) (base := base) F19 b19 K17 K18
  have K20 := c_confused (P := l.prog) (w := w) (base := base) F20 b20 K6 K9 K19 K18 K17
  have K21 := c_need_patterns (P := l.prog) (w := w) (base := base) F21 b21 B G8 K5
  have K22 := c_is_telling (P := l.prog) (w := w) (base := base) F22 b22 B K17
  have K23 := c_telling (P := l.prog) (w := w) (base := base) F23 b23 B K21 K9 K18 K19 K22
  have K24 := c_unsorted (P := l.prog) (w := w) (base := base) F24 b24 B K6 K9 K18 K17
  have K25 := c_clash_of (P := l.prog) (w := w) (base := base) F25 b25 B K19
  have K26 := c_clash (P := l.prog) (w := w) (base := base) F26 b26 K6 K9 K25
  have K27 := c_widths (P := l.prog) (w := w) (base := base) F27 b27 B K6 K9 K19
  have K28 := c_law_orders (P := l.prog) (w := w) (base := base) F28 b28 B K20 K23 K24 K26 K27
  have K29 := c_taken (P := l.prog) (w := w) (base := base) F29 b29 B G1 G7 G6 G9 G10
  have K30 := c_greedy_result (P := l.prog) (w := w) (base := base) F30 b30 B G1 K29
  have K31 := c_misread (P := l.prog) (w := w) (base := base) F31 b31 B G1 K6 K9 K18 K14 K30 K17
  have K32 := c_with_bars (P := l.prog) (w := w) (base := base) F32 b32 B
  have K33 := c_choices (P := l.prog) (w := w) (base := base) F33 b33 B
  have K34 := c_bars (P := l.prog) (w := w) (base := base) F34 b34 B K6 K9 K25 K32 K33
  have K35 := c_need_text (P := l.prog) (w := w) (base := base) F35 b35 B
  have K36 := c_readings (P := l.prog) (w := w) (base := base) F36 b36 K6 K9 K35 K19
  exact c_law (P := l.prog) (w := w) (base := base) F37 B K0 K1 K3 K28 K26 K24 K31 K34 K36
theorem walk {l : PySem.W.OpenLaw} {q : Program} {loose : List Str} {XP : (Str → Option Value) → Heap → Prop} {YP : World → Heap → Prop} {d : DefRec} {K : Params → PySem.W.Frag} (hn : l.most = some 63) (hdf : d.params.defaults = [])
    (hY : ∀ (w : World) (h : Heap), YP w h → (K w.params).In h)
    (F : ∀ (w : World) (mg : Str → Option Value) (fa : Addr) (h : Heap), (K w.params).In h → h.Ns mainGlobals mg → mg d.name = some (.ref fa) →
      ∃ fd : FuncData, (∀ (s : Shared) (u : Value), BindsTo s fd ⟨[u], []⟩ [("script", u)]) ∧ ∀ base : Heap, (K w.params).In base → base.Ns mainGlobals mg → FnOk l.prog w (K w.params) mg base CX0 12 fa fd ["script"] (sp_law (K w.params))) :
    PySem.W.WalkO q loose XP YP l.row.toRowW d [] (fun f vs => PySem.call f vs) :=
  L2.walk_of (n := 63) (k := 12) (x := "script") (CX := fun _ => CX0) (sp := fun w => sp_law (K w.params)) hn (by decide) hdf ⟨rfl, by decide, by decide⟩ hY F (fun _ _ a ns hl ho hS => ⟨a, ns, rfl, Fz.of ho hS, hl, fun _ => rfl⟩) fun _ _ _ _ _ z => z
end
end DP
open PySem PySem.W PyProof.Rows
set_option maxRecDepth 100000 in
set_option maxHeartbeats 0 in
theorem PySem.Challenge.cw_datepattern_k11_whole_known_dates_holds : PySem.Challenge.rw_datepattern_k11_whole_known_dates.Holds := by
  w_on; o_law; k_head; (case hw => w_witness2)
  k_fill
  refine DP.walk (l := PySem.Challenge.rw_datepattern_k11_whole_known_dates) rfl rfl (fun w h Y => PySem.W.kIn_of Y) ?F
  case F =>
    intro w mg fa h KX G hmg
    refine' DP.all_mk KX G hmg ?yy_a0 ?yy_l0 ?yy_c0 ?yy_k0 ?yy_a1 ?yy_l1 ?yy_c1 ?yy_k1 ?yy_a2 ?yy_l2 ?yy_c2 ?yy_k2 ?yy_a3 ?yy_l3 ?yy_c3 ?yy_k3 ?yy_a4 ?yy_l4 ?yy_c4 ?yy_k4 ?yy_a5 ?yy_l5 ?yy_c5 ?yy_k5 ?yy_a6 ?yy_l6 ?yy_c6 ?yy_k6 ?yy_a7 ?yy_l7 ?yy_c7 ?yy_k7 ?yy_a8 ?yy_l8 ?yy_c8 ?yy_k8 ?yy_a9 ?yy_l9 ?yy_c9 ?yy_k9 ?yy_a10 ?yy_l10 ?yy_c10 ?yy_k10 ?yy_a11 ?yy_l11 ?yy_c11 ?yy_k11 ?yy_a12 ?yy_l12 ?yy_c12 ?yy_k12 ?yy_a13 ?yy_l13 ?yy_c13 ?yy_k13 ?yy_a14 ?yy_l14 ?yy_c14 ?yy_k14 ?yy_a15 ?yy_l15 ?yy_c15 ?yy_k15 ?yy_a16 ?yy_l16 ?yy_c16 ?yy_k16 ?yy_a17 ?yy_l17 ?yy_c17 ?yy_k17 ?yy_a18 ?yy_l18 ?yy_c18 ?yy_k18 ?yy_a19 ?yy_l19 ?yy_c19 ?yy_k19 ?yy_a20 ?yy_l20 ?yy_c20 ?yy_k20 ?yy_a21 ?yy_l21 ?yy_c21 ?yy_k21 ?yy_a22 ?yy_l22 ?yy_c22 ?yy_k22 ?yy_a23 ?yy_l23 ?yy_c23 ?yy_k23 ?yy_a24 ?yy_l24 ?yy_c24 ?yy_k24 ?yy_a25 ?yy_l25 ?yy_c25 ?yy_k25 ?yy_a26 ?yy_l26 ?yy_c26 ?yy_k26 ?yy_a27 ?yy_l27 ?yy_c27 ?yy_k27 ?yy_a28 ?yy_l28 ?yy_c28 ?yy_k28 ?yy_a29 ?yy_l29 ?yy_c29 ?yy_k29 ?yy_a30 ?yy_l30 ?yy_c30 ?yy_k30 ?yy_a31 ?yy_l31 ?yy_c31 ?yy_k31 ?yy_a32 ?yy_l32 ?yy_c32 ?yy_k32 ?yy_a33 ?yy_l33 ?yy_c33 ?yy_k33 ?yy_a34 ?yy_l34 ?yy_c34 ?yy_k34 ?yy_a35 ?yy_l35 ?yy_c35 ?yy_k35 ?yy_a36 ?yy_l36 ?yy_c36 ?yy_k36 ?yy_a37 ?yy_l37 ?yy_c37 ?yy_k37 ?yy_g0 ?yy_g1 ?yy_q1 ?yy_g2 ?yy_g3 ?yy_g4 ?yy_g5 ?yy_g6 ?yy_q6 ?yy_g7 ?yy_q7 ?yy_g8 ?yy_g9 ?yy_g10 ?yy_q10 ?yy_kk10 ?yy_it10_0 ?yy_it10_1 ?yy_it10_2 ?yy_it10_3 ?yy_it10_4 ?yy_it10_5 ?yy_it10_6 ?yy_it10_7 ?yy_z_len ?yy_z_isinstance ?yy_z_all ?yy_z_any ?yy_z_sum ?yy_z_min ?yy_z_max ?yy_z_sorted ?yy_z_int ?yy_z_bool ?yy_z_tuple ?yy_z_str ?yy_z_list ?yy_z_dict ?yy_z_set ?yy_z_range ?yy_z_enumerate ?yy_z_zip
    (case yy_a0 => k_is)
    (case yy_l0 => k_is)
    (case yy_c0 => k_is)
    (case yy_k0 => k_is)
    (case yy_a1 => k_is)
    (case yy_l1 => k_is)
    (case yy_c1 => k_is)
    (case yy_k1 => k_is)
    (case yy_a2 => k_is)
    (case yy_l2 => k_is)
    (case yy_c2 => k_is)
    (case yy_k2 => k_is)
    (case yy_a3 => k_is)
    (case yy_l3 => k_is)
    (case yy_c3 => k_is)
    (case yy_k3 => k_is)
    (case yy_a4 => k_is)
    (case yy_l4 => k_is)
    (case yy_c4 => k_is)
    (case yy_k4 => k_is)
    (case yy_a5 => k_is)
    (case yy_l5 => k_is)
    (case yy_c5 => k_is)
    (case yy_k5 => k_is)
    (case yy_a6 => k_is)
    (case yy_l6 => k_is)
    (case yy_c6 => k_is)
    (case yy_k6 => k_is)
    (case yy_a7 => k_is)
    (case yy_l7 => k_is)
    (case yy_c7 => k_is)
    (case yy_k7 => k_is)
    (case yy_a8 => k_is)
    (case yy_l8 => k_is)
    (case yy_c8 => k_is)
    (case yy_k8 => k_is)
    (case yy_a9 => k_is)
    (case yy_l9 => k_is)
    (case yy_c9 => k_is)
    (case yy_k9 => k_is)
    (case yy_a10 => k_is)
    (case yy_l10 => k_is)
    (case yy_c10 => k_is)
    (case yy_k10 => k_is)
    (case yy_a11 => k_is)
    (case yy_l11 => k_is)
    (case yy_c11 => k_is)
    (case yy_k11 => k_is)
    (case yy_a12 => k_is)
    (case yy_l12 => k_is)
    (case yy_c12 => k_is)
    (case yy_k12 => k_is)
    (case yy_a13 => k_is)
    (case yy_l13 => k_is)
    (case yy_c13 => k_is)
    (case yy_k13 => k_is)
    (case yy_a14 => k_is)
    (case yy_l14 => k_is)
    (case yy_c14 => k_is)
    (case yy_k14 => k_is)
    (case yy_a15 => k_is)
    (case yy_l15 => k_is)
    (case yy_c15 => k_is)
    (case yy_k15 => k_is)
    (case yy_a16 => k_is)
    (case yy_l16 => k_is)
    (case yy_c16 => k_is)
    (case yy_k16 => k_is)
    (case yy_a17 => k_is)
    (case yy_l17 => k_is)
    (case yy_c17 => k_is)
    (case yy_k17 => k_is)
    (case yy_a18 => k_is)
    (case yy_l18 => k_is)
    (case yy_c18 => k_is)
    (case yy_k18 => k_is)
    (case yy_a19 => k_is)
    (case yy_l19 => k_is)
    (case yy_c19 => k_is)
    (case yy_k19 => k_is)
    (case yy_a20 => k_is)
    (case yy_l20 => k_is)
    (case yy_c20 => k_is)
    (case yy_k20 => k_is)
    (case yy_a21 => k_is)
    (case yy_l21 => k_is)
    (case yy_c21 => k_is)
    (case yy_k21 => k_is)
    (case yy_a22 => k_is)
    (case yy_l22 => k_is)
    (case yy_c22 => k_is)
    (case yy_k22 => k_is)
    (case yy_a23 => k_is)
    (case yy_l23 => k_is)
    (case yy_c23 => k_is)
    (case yy_k23 => k_is)
    (case yy_a24 => k_is)
    (case yy_l24 => k_is)
    (case yy_c24 => k_is)
    (case yy_k24 => k_is)
    (case yy_a25 => k_is)
    (case yy_l25 => k_is)
    (case yy_c25 => k_is)
    (case yy_k25 => k_is)
    (case yy_a26 => k_is)
    (case yy_l26 => k_is)
    (case yy_c26 => k_is)
    (case yy_k26 => k_is)
    (case yy_a27 => k_is)
    (case yy_l27 => k_is)
    (case yy_c27 => k_is)
    (case yy_k27 => k_is)
    (case yy_a28 => k_is)
    (case yy_l28 => k_is)
    (case yy_c28 => k_is)
    (case yy_k28 => k_is)
    (case yy_a29 => k_is)
    (case yy_l29 => k_is)
    (case yy_c29 => k_is)
    (case yy_k29 => k_is)
    (case yy_a30 => k_is)
    (case yy_l30 => k_is)
    (case yy_c30 => k_is)
    (case yy_k30 => k_is)
    (case yy_a31 => k_is)
    (case yy_l31 => k_is)
    (case yy_c31 => k_is)
    (case yy_k31 => k_is)
    (case yy_a32 => k_is)
    (case yy_l32 => k_is)
    (case yy_c32 => k_is)
    (case yy_k32 => k_is)
    (case yy_a33 => k_is)
    (case yy_l33 => k_is)
    (case yy_c33 => k_is)
    (case yy_k33 => k_is)
    (case yy_a34 => k_is)
    (case yy_l34 => k_is)
    (case yy_c34 => k_is)
    (case yy_k34 => k_is)
    (case yy_a35 => k_is)
    (case yy_l35 => k_is)
    (case yy_c35 => k_is)
    (case yy_k35 => k_is)
    (case yy_a36 => k_is)
    (case yy_l36 => k_is)
    (case yy_c36 => k_is)
    (case yy_k36 => k_is)
    (case yy_a37 => k_is)
    (case yy_l37 => k_is)
    (case yy_c37 => k_is)
    (case yy_k37 => k_is)
    (case yy_g0 => k_is)
    (case yy_g1 => k_is)
    (case yy_q1 => k_is)
    (case yy_g2 => k_is)
    (case yy_g3 => k_is)
    (case yy_g4 => k_is)
    (case yy_g5 => k_is)
    (case yy_g6 => k_is)
    (case yy_q6 => k_is)
    (case yy_g7 => k_is)
    (case yy_q7 => k_is)
    (case yy_g8 => k_is)
    (case yy_g9 => k_is)
    (case yy_g10 => k_is)
    (case yy_q10 => k_is)
    (case yy_kk10 => k_keys)
    (case yy_it10_0 => k_is)
    (case yy_it10_1 => k_is)
    (case yy_it10_2 => k_is)
    (case yy_it10_3 => k_is)
    (case yy_it10_4 => k_is)
    (case yy_it10_5 => k_is)
    (case yy_it10_6 => k_is)
    (case yy_it10_7 => k_is)
    (case yy_z_len => k_is)
    (case yy_z_isinstance => k_is)
    (case yy_z_all => k_is)
    (case yy_z_any => k_is)
    (case yy_z_sum => k_is)
    (case yy_z_min => k_is)
    (case yy_z_max => k_is)
    (case yy_z_sorted => k_is)
    (case yy_z_int => k_is)
    (case yy_z_bool => k_is)
    (case yy_z_tuple => k_is)
    (case yy_z_str => k_is)
    (case yy_z_list => k_is)
    (case yy_z_dict => k_is)
    (case yy_z_set => k_is)
    (case yy_z_range => k_is)
    (case yy_z_enumerate => k_is)
    (case yy_z_zip => k_is)
