import PyProof.Rows.All
import HandS.Deep
import HandS.DictComp
import HandS.EndTab
import HandS.Exc
import HandS.ExcCtx
import HandS.ExcField
import HandS.ExcInit
import HandS.ExcIs
import HandS.ExcOwn
import HandS.ExcValue
import HandS.FStr
import HandS.ForMost
import HandS.Head2
import HandS.HotCalls
import HandS.IsInst
import HandS.Iter
import HandS.Lambda
import HandS.MakeKwOnly
import HandS.SortInts
import HandS.SortKw
import HandS.Style
import HandS.SuiteRaise
import HandS.TupLen
import HandS.Wide
import HandS.WordsExc
import HandS.Zip
import KE.KExcSuper
import KE.KNestM
import KE.SortCalls
import KE.SortData
import KE.SortKeyHeap
import PySem.Challenge.RW_eachfive_k00_errors_made
set_option Elab.async false
set_option maxRecDepth 100000
set_option maxHeartbeats 0
namespace K00H
open PySem PySem.W PySem.Calls PyProof.Rows HandSHeadRun
theorem map3 {σ α β γ : Type} {o : Option σ} {f : σ → α} {g : σ → β} {h : σ → γ} {a : α} {b : β} {c : γ} (A : o.map f = some a) (B : o.map g = some b) (C : o.map h = some c) : o.map (fun s => (f s, g s, h s)) = some (a, b, c) := by
  cases o with
  | none => cases A
  | some s => cases A; cases B; cases C; rfl
abbrev R : OpenRow := OpenLaw.row PySem.Challenge.rw_eachfive_k00_errors_made
def keep : List Nat := [1, 2, 3, 4, 5, 6, 7, 8, 9, 10, 11, 12, 13, 14, 15, 17, 19, 20, 21, 22, 23, 24, 25, 26, 27, 28, 29, 30, 31, 32, 33, 34, 35, 37, 39, 40, 42, 43, 44, 46, 47, 48, 49, 50, 51, 52, 53, 54, 56, 57, 58, 59, 61, 62, 63, 64, 65, 66, 67, 68, 69, 70, 71, 72, 73, 74]
abbrev qv : Program := view R.prog keep
theorem mapP {σ α β : Type} {o : Option σ} {f : σ → α × β} {x : α × β} (A : o.map (fun s => (f s).1) = some x.1) (B : o.map (fun s => (f s).2) = some x.2) : o.map f = some x := by
  cases o with
  | none => cases A
  | some s => exact congrArg some (Prod.ext (Option.some.inj A) (Option.some.inj B))
noncomputable def sQ (s : SharedT) := seenQ qv [] (importedModules R.prog.main.body) (fun s => xlAt qv [] s && recOk R.toRowW.records s) s.abs
theorem run2 (w : World) (os : OsState) : (endF (stepQ (denQ tabQ) R.prog w) 14300 R.prog w os).map (fun s => (sQ s).2.2.1) = some (true) := by kernel_rfl
theorem run0 (w : World) (os : OsState) : (endF (stepQ (denQ tabQ) R.prog w) 14300 R.prog w os).map (fun s => (sQ s).1) = some (expectedOf qv) := by kernel_rfl
theorem run3 (w : World) (os : OsState) : (endF (stepQ (denQ tabQ) R.prog w) 14300 R.prog w os).map (fun s => (sQ s).2.2.2.1) = some (true) := by kernel_rfl
theorem run14A (w : World) (os : OsState) : (endF (stepQ (denQ tabQ) R.prog w) 14300 R.prog w os).map (fun s => ((sQ s).2.1, (sQ s).2.2.2.2.1, looksF R.prog (boot_heap w.params) s.abs)) = some (bltViewBooted, pinGoodD (drecsOf qv), true) := by kernel_rfl
theorem run5 (w : World) (os : OsState) : (endF (stepQ (denQ tabQ) R.prog w) 14300 R.prog w os).map (fun s => (sQ s).2.2.2.2.2.1) = some (([] : List (Option PlainShape))) := by kernel_rfl
theorem run6 (w : World) (os : OsState) : (endF (stepQ (denQ tabQ) R.prog w) 14300 R.prog w os).map (fun s => (sQ s).2.2.2.2.2.2.1) = some (plainGoodD qv []) := by kernel_rfl
theorem run7 (w : World) (os : OsState) : (endF (stepQ (denQ tabQ) R.prog w) 14300 R.prog w os).map (fun s => (sQ s).2.2.2.2.2.2.2.1) = some (wideGood qv) := by kernel_rfl
theorem run8 (w : World) (os : OsState) : (endF (stepQ (denQ tabQ) R.prog w) 14300 R.prog w os).map (fun s => (sQ s).2.2.2.2.2.2.2.2) = some (clsGoodW qv []) := by kernel_rfl
theorem good5 : plainGoodE qv (looseW qv []) = [] := by kernel_rfl
theorem map3' {σ α β γ : Type} {o : Option σ} {f : σ → α} {g : σ → β} {h : σ → γ} {a : α} {b : β} {c : γ} (A : o.map (fun s => (f s, g s, h s)) = some (a, b, c)) : o.map f = some a ∧ o.map g = some b ∧ o.map h = some c := by
  cases o with
  | none => cases A
  | some s => cases A; exact ⟨rfl, rfl, rfl⟩
theorem mapE {σ α : Type} {o : Option σ} {f : σ → α} {x y : α} (A : o.map f = some x) (e : y = x) : o.map f = some y := by rw [A, e]
theorem runA (w : World) (os : OsState) : (endF (stepQ (denQ tabQ) R.prog w) 14300 R.prog w os).map (fun s => looksF R.prog (boot_heap w.params) s.abs) = some true := (map3' (run14A w os)).2.2
theorem runB (w : World) (os : OsState) : (endF (stepQ (denQ tabQ) R.prog w) 14300 R.prog w os).map sQ = some (openGood qv []) :=
  mapP (run0 w os) (mapP (map3' (run14A w os)).1 (mapP (run2 w os) (mapP (run3 w os) (mapP (map3' (run14A w os)).2.1 (mapP (mapE (run5 w os) good5) (mapP (run6 w os) (mapP (run7 w os) (run8 w os))))))))
end K00H
set_option Elab.async false
set_option linter.all false
set_option maxRecDepth 100000
set_option maxHeartbeats 2000000
set_option autoImplicit false
namespace T
open PySem PySem.Spec PyProof.Rows L2
open PySem.W (Frag)
abbrev St := L2.St
/-! ### pairs of lists -/
inductive All2 {α β : Type _} (R : α → β → Prop) : List α → List β → Prop
  | nil : All2 R [] []
  | cons {a b as bs} : R a b → All2 R as bs → All2 R (a :: as) (b :: bs)
namespace All2
variable {α β : Type _} {R R' : α → β → Prop}
theorem mono (f : ∀ a b, R a b → R' a b) : ∀ {as bs}, All2 R as bs → All2 R' as bs
  | _, _, .nil => .nil
  | _, _, .cons h t => .cons (f _ _ h) (mono f t)
theorem length : ∀ {as : List α} {bs : List β}, All2 R as bs → as.length = bs.length
  | _, _, .nil => rfl
  | _, _, .cons _ t => by simp [length t]
theorem get : ∀ {as : List α} {bs : List β} {i : Nat} {b : β}, All2 R as bs → bs[i]? = some b → ∃ a, as[i]? = some a ∧ R a b
  | _, _, _, _, .nil, e => by simp at e
  | _, _, 0, _, .cons h _, e => by
    simp only [List.getElem?_cons_zero, Option.some.injEq] at e
    subst e
    exact ⟨_, rfl, h⟩
  | _, _, i + 1, _, .cons _ t, e => by
    simp only [List.getElem?_cons_succ] at e
    obtain ⟨a, h1, h2⟩ := get t e
    exact ⟨a, by simpa using h1, h2⟩
theorem set {a : α} {b : β} (r : R a b) : ∀ {as : List α} {bs : List β} (i : Nat), All2 R as bs → All2 R (as.set i a) (bs.set i b)
  | _, _, _, .nil => .nil
  | _, _, 0, .cons _ t => .cons r t
  | _, _, i + 1, .cons q t => .cons q (set r i t)
theorem append : ∀ {as as' : List α} {bs bs' : List β}, All2 R as bs → All2 R as' bs' → All2 R (as ++ as') (bs ++ bs')
  | _, _, _, _, .nil, s => s
  | _, _, _, _, .cons h t, s => .cons h (append t s)
theorem split : ∀ {as as' : List α} {bs bs' : List β}, All2 R (as ++ as') (bs ++ bs') → as.length = bs.length → All2 R as bs ∧ All2 R as' bs'
  | [], _, [], _, h, _ => ⟨.nil, h⟩
  | a :: as, _, b :: bs, _, h, e => by
    cases h with
    | cons h t =>
      obtain ⟨h1, h2⟩ := split (as := as) (bs := bs) t (by simpa using e)
      exact ⟨.cons h h1, h2⟩
  | [], _, b :: bs, _, _, e => by simp at e
  | a :: as, _, [], _, _, e => by simp at e
end All2
/-! ### typed data -/
class Rp (α : Type) where
  rp : Frag → Hp → V → α → Prop
  mono : ∀ {K F F' v x}, Same F F' → rp K F v x → rp K F' v x
structure TV : Type 1 where
  {α : Type}
  [i : Rp α]
  x : α
abbrev tv {α : Type} [Rp α] (x : α) : TV := ⟨x⟩
def TV.ok (K : Frag) (F : Hp) (v : V) (t : TV) : Prop := t.i.rp K F v t.x
theorem TV.ok.mono {K F F' v} {t : TV} (s : Same F F') (h : t.ok K F v) : t.ok K F' v := t.i.mono s h
instance : Rp Int := ⟨fun _ _ v x => v = .int x, fun _ h => h⟩
instance : Rp Bool := ⟨fun _ _ v x => v = .bl x, fun _ h => h⟩
instance : Rp Str := ⟨fun _ _ v x => v = .str x, fun _ h => h⟩
instance : Rp Unit := ⟨fun _ _ v _ => v = .non, fun _ h => h⟩
/-- the address of a cell -/
structure Ptr where
  a : Addr
instance : Rp Ptr := ⟨fun _ _ v x => v = .ref x.a, fun _ h => h⟩
theorem rd_mono {F F' : Hp} {a : Addr} {o : HO} (s : Same F F') (h : Rd F a o) : Rd F' a o := h.elim (fun h => .inl (s _ _ h)) fun ⟨u, h⟩ => .inr ⟨u, s _ _ h⟩
instance instRpList {α : Type} [Rp α] : Rp (List α) where
  rp K F v xs := ∃ a vs, v = .ref a ∧ F a = some (.lst vs) ∧ All2 (Rp.rp K F) vs xs
  mono := fun s ⟨a, vs, e, h, r⟩ => ⟨a, vs, e, s _ _ h, r.mono fun _ _ q => Rp.mono s q⟩
/-- a tuple of any number of things of one kind -/
structure Tp (α : Type) where
  l : List α
deriving DecidableEq
instance instRpTp {α : Type} [Rp α] : Rp (Tp α) where
  rp K F v xs := ∃ a vs, v = .ref a ∧ F a = some (.tup vs) ∧ All2 (Rp.rp K F) vs xs.l
  mono := fun s ⟨a, vs, e, h, r⟩ => ⟨a, vs, e, s _ _ h, r.mono fun _ _ q => Rp.mono s q⟩
/-- a pair -/
instance instRpProd {α β : Type} [Rp α] [Rp β] : Rp (α × β) where
  rp K F v x := ∃ a v1 v2, v = .ref a ∧ F a = some (.tup [v1, v2]) ∧ Rp.rp K F v1 x.1 ∧ Rp.rp K F v2 x.2
  mono := fun s ⟨a, v1, v2, e, h, r1, r2⟩ => ⟨a, v1, v2, e, s _ _ h, Rp.mono s r1, Rp.mono s r2⟩
/-- keys of dicts -/
class Ky (κ : Type) where
  key : κ → Key
  kinj : ∀ {a b}, key a = key b → a = b
instance : Ky Int := ⟨Sum.inl, fun h => Sum.inl.inj h⟩
instance : Ky Str := ⟨Sum.inr, fun h => Sum.inr.inj h⟩
/-- a dict that stands -/
structure Dc (κ α : Type) where
  l : List (κ × α)
def KvOk {κ α : Type} [Ky κ] [Rp α] (K : Frag) (F : Hp) (p : Key × V) (q : κ × α) : Prop := p.1 = Ky.key q.1 ∧ Rp.rp K F p.2 q.2
theorem KvOk.mono {κ α : Type} [Ky κ] [Rp α] {K : Frag} {F F' : Hp} {p : Key × V} {q : κ × α} (s : Same F F') (h : KvOk K F p q) : KvOk K F' p q := ⟨h.1, Rp.mono s h.2⟩
instance instRpDc {κ α : Type} [Ky κ] [Rp α] : Rp (Dc κ α) where
  rp K F v d := ∃ a o kvs, v = .ref a ∧ F a = some (.frz o (.dK kvs)) ∧ All2 (KvOk K F) kvs d.l
  mono := fun s ⟨a, o, kvs, e, h, r⟩ => ⟨a, o, kvs, e, s _ _ h, r.mono fun _ _ q => q.mono s⟩
/-- .. with tuples as keys -/
structure Dt (κ α : Type) where
  l : List (Tp κ × α)
def KtOk {κ α : Type} [Ky κ] [Rp α] (K : Frag) (F : Hp) (p : List Key × V) (q : Tp κ × α) : Prop := p.1 = q.1.l.map Ky.key ∧ Rp.rp K F p.2 q.2
theorem KtOk.mono {κ α : Type} [Ky κ] [Rp α] {K : Frag} {F F' : Hp} {p : List Key × V} {q : Tp κ × α} (s : Same F F') (h : KtOk K F p q) : KtOk K F' p q := ⟨h.1, Rp.mono s h.2⟩
instance instRpDt {κ α : Type} [Ky κ] [Rp α] : Rp (Dt κ α) where
  rp K F v d := ∃ a o kvs, v = .ref a ∧ F a = some (.frz o (.dT kvs)) ∧ All2 (KtOk K F) kvs d.l
  mono := fun s ⟨a, o, kvs, e, h, r⟩ => ⟨a, o, kvs, e, s _ _ h, r.mono fun _ _ q => q.mono s⟩
/-! ### cells: objects that are still changed -/
inductive Ct : Type 1
  | lst {α : Type} [Rp α] (xs : List α)
  | dct {κ α : Type} [Ky κ] [Rp α] (kvs : List (κ × α))
  | dtt {κ α : Type} [Ky κ] [Rp α] (kvs : List (Tp κ × α))
  | tab (q : Str)
  | ins (C dx : Addr) (fs : List (Str × TV))
/-- an instance's fields -/
def FldOk (K : Frag) (F : Hp) (p : Str × V) (q : Str × TV) : Prop := p.1 = q.1 ∧ q.2.ok K F p.2
theorem FldOk.mono {K : Frag} {F F' : Hp} {p : Str × V} {q : Str × TV} (s : Same F F') (h : FldOk K F p q) : FldOk K F' p q := ⟨h.1, h.2.mono s⟩
def Ct.ho (K : Frag) (F : Hp) : Ct → HO → Prop
  | @Ct.lst _ _ xs, o => ∃ vs, o = .lst vs ∧ All2 (Rp.rp K F) vs xs
  | @Ct.dct _ _ _ _ kvs, o => ∃ ps, o = .dK ps ∧ All2 (KvOk K F) ps kvs
  | @Ct.dtt _ _ _ _ kvs, o => ∃ ps, o = .dT ps ∧ All2 (KtOk K F) ps kvs
  | .tab q, o => ∃ ps : Array Value, o = .tbl ps ∧ TriplesOk ps.toList ∧ ∀ (pos : Pos) (cv : Value), codeAmong pos ps.toList = some cv → ∃ c, cv = .ref c ∧ F c = some (LamX.CodeO c q)
  | .ins C dx fs, o => ∃ vs, o = .ins C dx vs ∧ All2 (FldOk K F) vs fs
theorem Ct.ho.mono {K : Frag} {F F' : Hp} {c : Ct} {o : HO} (s : Same F F') (h : c.ho K F o) : c.ho K F' o := by
  cases c with
  | lst xs => obtain ⟨vs, e, r⟩ := h; exact ⟨vs, e, r.mono fun _ _ q => Rp.mono s q⟩
  | dct kvs => obtain ⟨vs, e, r⟩ := h; exact ⟨vs, e, r.mono fun _ _ q => q.mono s⟩
  | dtt kvs => obtain ⟨vs, e, r⟩ := h; exact ⟨vs, e, r.mono fun _ _ q => q.mono s⟩
  | tab q => obtain ⟨ps, e, r1, r2⟩ := h; exact ⟨ps, e, r1, fun p cv hc => let ⟨c, h1, h2⟩ := r2 p cv hc; ⟨c, h1, s _ _ h2⟩⟩
  | ins C dx fs => obtain ⟨vs, e, r⟩ := h; exact ⟨vs, e, r.mono fun _ _ q => q.mono s⟩
theorem Ct.ho_tup {K : Frag} {F : Hp} {c : Ct} {xs : List V} : ¬ c.ho K F (.tup xs) := fun h => by
  cases c <;> (obtain ⟨_, e, _⟩ := h; cases e)
abbrev Cs := List (Addr × Ct)
/-- F's things stand in H -/
def Sub (F H : Hp) : Prop := ∀ a o, F a = some o → H a = some o
theorem Sub.refl (F : Hp) : Sub F F := fun _ _ h => h
theorem Sub.rd {F H : Hp} {a : Addr} {o : HO} (s : Sub F H) (h : Rd F a o) : Rd H a o := h.elim (fun h => .inl (s _ _ h)) fun ⟨u, h⟩ => .inr ⟨u, s _ _ h⟩
theorem Sub.sqL {K : Frag} {F H : Hp} {a : Addr} {xs : List V} (s : Sub F H) (h : SqL K F a xs) : SqL K H a xs := h.elim (fun h => .inl (s.rd h)) .inr
theorem Sub.sqT {K : Frag} {F H : Hp} {a : Addr} {xs : List V} (s : Sub F H) (h : SqT K F a xs) : SqT K H a xs := h.elim (fun h => .inl (s.rd h)) .inr
theorem Sub.none {F H : Hp} {a : Addr} (s : Sub F H) (h : H a = none) : F a = none := by
  cases e : F a with
  | none => rfl
  | some o => rw [s a o e] at h; cases h
/-! ### the state of a def that runs -/
structure Bs where
  K : Frag
  H : Hp
  F : Hp
  P : List Addr
abbrev Sl := Option TV
def slOk (K : Frag) (F : Hp) (s : Option V) (g : Sl) : Prop := ∀ t, g = some t → ∃ v, s = some v ∧ t.ok K F v
theorem slOk.mono {K : Frag} {F F' : Hp} {s : Option V} {g : Sl} (e : Same F F') (h : slOk K F s g) : slOk K F' s g := fun t q => let ⟨v, h1, h2⟩ := h t q; ⟨v, h1, h2.mono e⟩
/-- the heap's part: F what stands for good, C the cells -/
structure HF (B : Bs) (F : Hp) (C : Cs) (H : Hp) : Prop where
  sub : Sub F H
  base : Same B.F F
  new : ∀ a o, F a = some o → B.F a = none → B.H a = none ∨ ∃ xs, o = .tup xs
  old : ∀ a o, B.H a = some o → a ∉ B.P → H a = some o
  cells : ∀ p ∈ C, F p.1 = none ∧ (∃ o, H p.1 = some o ∧ p.2.ho B.K F o) ∧ (p.1 ∈ B.P ∨ B.H p.1 = none)
  nd : (C.map (·.1)).Nodup
  pal : ∀ a ∈ B.P, H a ≠ none
  pb : ∀ a ∈ B.P, B.H a ≠ none
structure SF (B : Bs) (F : Hp) (Γ : List Sl) (C : Cs) (τ : List TV) (σ : St) (ws : List V) (H : Hp) : Prop where
  hf : HF B F C H
  slots : All2 (slOk B.K F) σ Γ
  temps : All2 (TV.ok B.K F) ws τ
def ST (B : Bs) (Γ : List Sl) (C : Cs) (τ : List TV) (σ : St) (ws : List V) (H : Hp) : Prop := ∃ F, SF B F Γ C τ σ ws H
section
variable {B : Bs} {F F' : Hp} {Γ Γ' : List Sl} {C C' C1 C2 C3 : Cs} {τ : List TV} {σ : St} {ws : List V} {H H' : Hp}
theorem HF.free (h : HF B F C H) {p : Addr} (hp : H p = none) : F p = none ∧ p ∉ B.P ∧ B.H p = none := by
  have hP : p ∉ B.P := fun z => h.pal p z hp
  refine ⟨h.sub.none hp, hP, ?_⟩
  cases e : B.H p with
  | none => rfl
  | some o =>
    have := h.old p o e hP
    rw [hp] at this; cases this
end
/-! ### judgements on readings -/
/-- an expression's value; what it does to cells -/
def Ev (B : Bs) (t : TE) (Γ : List Sl) (C : Cs) (x : TV) (C' : Cs) : Prop :=
  ∀ τ σ ws H, ST B Γ C τ σ ws H → ∀ Q : VK, (∀ v H', ST B Γ C' (x :: τ) σ (v :: ws) H' → Q v H') → t σ H Q
/-- .. a new object -/
def EvN (B : Bs) (t : TE) (Γ : List Sl) (C : Cs) (c : Ct) (C' : Cs) : Prop :=
  ∀ τ σ ws H, ST B Γ C τ σ ws H → ∀ Q : VK, (∀ p H', B.H p = none → p ∉ B.P → ST B Γ ((p, c) :: C') τ σ ws H' → Q (.ref p) H') → t σ H Q
def EvT (B : Bs) (t : TT) (Γ : List Sl) (C : Cs) (b : Bool) (C' : Cs) : Prop :=
  ∀ τ σ ws H, ST B Γ C τ σ ws H → ∀ Q : Bool → Hp → Prop, (∀ H', ST B Γ C' τ σ ws H' → Q b H') → t σ H Q
/-- arguments, from the left; the last one is the newest -/
def EvA (B : Bs) (t : TA) (Γ : List Sl) (C : Cs) (xs : List TV) (C' : Cs) : Prop :=
  ∀ τ σ ws H, ST B Γ C τ σ ws H → ∀ Q : List V → Hp → Prop, (∀ vs H', ST B Γ C' (xs ++ τ) σ (vs ++ ws) H' → vs.length = xs.length → Q vs H') → t σ H Q
structure EndT where
  nx : List TV → List V → St → Hp → Prop
  rt : VK
  bk : List TV → List V → St → Hp → Prop := fun _ _ _ _ => False
  ct : List TV → List V → St → Hp → Prop := fun _ _ _ _ => False
/-- what D wants is what E wants -/
structure EndT.Imp (D : EndT) (τ : List TV) (ws : List V) (E : Ends) : Prop where
  nx : ∀ σ H, D.nx τ ws σ H → E.nx σ H
  rt : ∀ v H, D.rt v H → E.rt v H
  bk : ∀ σ H, D.bk τ ws σ H → E.bk σ H
  ct : ∀ σ H, D.ct τ ws σ H → E.ct σ H
def Ss (B : Bs) (t : TS) (Γ : List Sl) (C : Cs) (D : EndT) : Prop :=
  ∀ τ σ ws H, ST B Γ C τ σ ws H → ∀ E : Ends, D.Imp τ ws E → t E σ H
/-- what a return is to reach: a value that stands, or a new object; the parameters' cells -/
def RetV (B : Bs) (x : TV) (C : Cs) : VK := fun v H => ∃ F, HF B F C H ∧ x.ok B.K F v
def RetN (B : Bs) (c : Ct) (C : Cs) : VK := fun v H => ∃ p F, v = .ref p ∧ B.H p = none ∧ p ∉ B.P ∧ HF B F ((p, c) :: C) H
/-! ### structural lemmas -/
section
variable {B : Bs} {F F' : Hp} {Γ Γ' : List Sl} {C C' C1 C2 C3 : Cs} {τ : List TV} {σ : St} {ws : List V} {H H' : Hp} {x y z : TV} {c : Ct}
theorem HF.drop {p : Addr × Ct} (h : HF B F (p :: C) H) : HF B F C H :=
  ⟨h.sub, h.base, h.new, h.old, fun q hq => h.cells q (List.mem_cons_of_mem _ hq), (List.nodup_cons.mp h.nd).2, h.pal, h.pb⟩
theorem HF.sublist (h : HF B F C H) (s : C'.Sublist C) : HF B F C' H :=
  ⟨h.sub, h.base, h.new, h.old, fun q hq => h.cells q (s.mem hq), h.nd.sublist (s.map _), h.pal, h.pb⟩
theorem HF.perm (h : HF B F C H) (s : C.Perm C') : HF B F C' H :=
  ⟨h.sub, h.base, h.new, h.old, fun q hq => h.cells q (s.mem_iff.mpr hq), (s.map (·.1)).nodup_iff.mp h.nd, h.pal, h.pb⟩
/-- a new object that stands for good -/
theorem HF.laid {p : Addr} {o : HO} (h : HF B F C H) (hp : H p = none) : HF B (upd F p o) C (upd H p o) ∧ Same F (upd F p o) ∧ Same H (upd H p o) := by
  have hF : F p = none := h.sub.none hp
  have sF : Same F (upd F p o) := fun b u e => by rw [upd_ne (ne_of_none e hF)]; exact e
  have sH : Same H (upd H p o) := fun b u e => by rw [upd_ne (ne_of_none e hp)]; exact e
  have hB : B.H p = none := (h.free hp).2.2
  refine ⟨⟨fun a u e => ?_, h.base.trans sF, fun a u e hn => ?_, fun a u e ha => sH _ _ (h.old a u e ha), fun q hq => ?_, h.nd, fun a ha z => h.pal a ha (Same.free sH z), h.pb⟩, sF, sH⟩
  · by_cases ha : a = p
    · subst ha; rw [upd_same] at e; cases e; exact upd_same
    · rw [upd_ne ha] at e
      exact sH _ _ (h.sub a u e)
  · by_cases ha : a = p
    · subst ha; exact .inl hB
    · rw [upd_ne ha] at e; exact h.new a u e hn
  · obtain ⟨h1, ⟨u, h2, h3⟩, h4⟩ := h.cells q hq
    have hne : q.1 ≠ p := ne_of_none h2 hp
    exact ⟨by rw [upd_ne hne]; exact h1, ⟨u, sH _ _ h2, h3.mono sF⟩, h4⟩
/-- a tuple that H tells of stands -/
theorem HF.tuple {p : Addr} {xs : List V} (h : HF B F C H) (hp : H p = some (.tup xs)) : ∃ F', HF B F' C H ∧ Same F F' ∧ F' p = some (.tup xs) := by
  cases e : F p with
  | some o =>
    have := h.sub _ _ e
    rw [hp] at this
    cases this
    exact ⟨F, h, Same.refl F, e⟩
  | none =>
    have sF : Same F (upd F p (.tup xs)) := fun b u q => by rw [upd_ne (ne_of_none q e)]; exact q
    refine ⟨upd F p (.tup xs), ⟨fun a u q => ?_, h.base.trans sF, fun a u q hn => ?_, h.old, fun q hq => ?_, h.nd, h.pal, h.pb⟩, sF, upd_same⟩
    · by_cases ha : a = p
      · subst ha; rw [upd_same] at q; cases q; exact hp
      · rw [upd_ne ha] at q; exact h.sub a u q
    · by_cases ha : a = p
      · subst ha; rw [upd_same] at q; cases q; exact .inr ⟨xs, rfl⟩
      · rw [upd_ne ha] at q; exact h.new a u q hn
    · obtain ⟨h1, ⟨u, h2, h3⟩, h4⟩ := h.cells q hq
      have hne : q.1 ≠ p := fun z => by rw [z, hp] at h2; cases h2; exact Ct.ho_tup h3
      exact ⟨by rw [upd_ne hne]; exact h1, ⟨u, h2, h3.mono sF⟩, h4⟩
/-- a new cell -/
theorem HF.cell {p : Addr} {o : HO} (h : HF B F C H) (hp : H p = none) (ho : c.ho B.K F o) : HF B F ((p, c) :: C) (upd H p o) ∧ Same H (upd H p o) := by
  have sH : Same H (upd H p o) := fun b u e => by rw [upd_ne (ne_of_none e hp)]; exact e
  have hf := h.free hp
  refine ⟨⟨fun a u e => ?_, h.base, h.new, fun a u e ha => sH _ _ (h.old a u e ha), fun q hq => ?_, ?_, fun a ha z => h.pal a ha (Same.free sH z), h.pb⟩, sH⟩
  · exact sH _ _ (h.sub a u e)
  · rcases List.mem_cons.mp hq with rfl | hq
    · exact ⟨hf.1, ⟨o, upd_same, ho⟩, .inr hf.2.2⟩
    · obtain ⟨h1, ⟨u, h2, h3⟩, h4⟩ := h.cells q hq
      exact ⟨h1, ⟨u, sH _ _ h2, h3⟩, h4⟩
  · refine List.nodup_cons.mpr ⟨fun z => ?_, h.nd⟩
    obtain ⟨q, hq, e⟩ := List.mem_map.mp z
    obtain ⟨_, ⟨u, h2, _⟩, _⟩ := h.cells q hq
    rw [e, hp] at h2; cases h2
/-- a cell is given up: it stands for good -/
theorem HF.freeze {p : Addr} (h : HF B F ((p, c) :: C) H) (hB : B.H p = none) : ∃ o, H p = some o ∧ c.ho B.K F o ∧ Same F (upd F p o) ∧ HF B (upd F p o) C H := by
  obtain ⟨h1, ⟨o, h2, h3⟩, _⟩ := h.cells (p, c) List.mem_cons_self
  have sF : Same F (upd F p o) := fun b u e => by rw [upd_ne (ne_of_none e h1)]; exact e
  have hnd := List.nodup_cons.mp h.nd
  refine ⟨o, h2, h3, sF, fun a u e => ?_, h.base.trans sF, fun a u e hn => ?_, h.old, fun q hq => ?_, hnd.2, h.pal, h.pb⟩
  · by_cases ha : a = p
    · subst ha; rw [upd_same] at e; cases e; exact h2
    · rw [upd_ne ha] at e; exact h.sub a u e
  · by_cases ha : a = p
    · subst ha; exact .inl hB
    · rw [upd_ne ha] at e; exact h.new a u e hn
  · obtain ⟨q1, ⟨u, q2, q3⟩, q4⟩ := h.cells q (List.mem_cons_of_mem _ hq)
    have hne : q.1 ≠ p := fun z => hnd.1 (List.mem_map.mpr ⟨q, hq, z⟩)
    exact ⟨by rw [upd_ne hne]; exact q1, ⟨u, q2, q3.mono sF⟩, q4⟩
theorem Cs.keys_set {p : Addr} {c' : Ct} : ∀ {C : Cs} {k : Nat}, C[k]? = some (p, c) → (C.set k (p, c')).map (·.1) = C.map (·.1)
  | [], k, e => by simp at e
  | q :: C, 0, e => by
    simp only [List.getElem?_cons_zero, Option.some.injEq] at e
    subst e
    rfl
  | q :: C, k + 1, e => by
    simp only [List.getElem?_cons_succ] at e
    simp only [List.set_cons_succ, List.map_cons, Cs.keys_set e]
/-- two cells at one address are one -/
theorem nodup_at : ∀ {C : Cs} {i j : Nat} {p : Addr} {c d : Ct}, (C.map (·.1)).Nodup → C[i]? = some (p, c) → C[j]? = some (p, d) → i = j := fun {C i j p c d} hn hi hj => by
  have h1 : (C.map (·.1))[i]? = some p := by rw [List.getElem?_map, hi]; rfl
  have h2 : (C.map (·.1))[j]? = some p := by rw [List.getElem?_map, hj]; rfl
  obtain ⟨a1, _⟩ := List.getElem?_eq_some_iff.mp h1
  exact (List.getElem?_inj a1 hn).mp (h1.trans h2.symm)
/-- a cell is changed -/
theorem HF.write {p : Addr} {o' : HO} {c' : Ct} {k : Nat} (h : HF B F C H) (hk : C[k]? = some (p, c)) (ho : c'.ho B.K F o') : HF B F (C.set k (p, c')) (upd H p o') := by
  have hm := List.mem_of_getElem? hk
  obtain ⟨h1, ⟨o, h2, h3⟩, h4⟩ := h.cells (p, c) hm
  refine ⟨fun a u e => ?_, h.base, h.new, fun a u e ha => ?_, fun q hq => ?_, by rw [Cs.keys_set hk]; exact h.nd, fun a ha => ?_, h.pb⟩
  · have hne : a ≠ p := ne_of_none e h1
    rw [upd_ne hne]
    exact h.sub a u e
  · have hne : a ≠ p := fun z => by
      subst z
      rcases h4 with z | z
      · exact ha z
      · rw [e] at z; cases z
    rw [upd_ne hne]
    exact h.old a u e ha
  · obtain ⟨j, hj⟩ := List.getElem?_of_mem hq
    by_cases hjk : k = j
    · subst hjk
      have hl : k < C.length := (List.getElem?_eq_some_iff.mp hk).1
      rw [List.getElem?_set_self hl] at hj
      cases hj
      exact ⟨h1, ⟨o', upd_same, ho⟩, h4⟩
    · rw [List.getElem?_set_ne hjk] at hj
      obtain ⟨q1, ⟨u, q2, q3⟩, q4⟩ := h.cells q (List.mem_of_getElem? hj)
      have hne : q.1 ≠ p := fun z => hjk (nodup_at (d := q.2) h.nd hk (by rw [← z]; exact hj))
      exact ⟨q1, ⟨u, by rw [upd_ne hne]; exact q2, q3⟩, q4⟩
  · by_cases e : a = p
    · rw [e, upd_same]; exact nofun
    · rw [upd_ne e]; exact h.pal a ha
theorem All2.slots_mono (s : Same F F') (h : All2 (slOk B.K F) σ Γ) : All2 (slOk B.K F') σ Γ := h.mono fun _ _ q => q.mono s
theorem All2.temps_mono (s : Same F F') (h : All2 (TV.ok B.K F) ws τ) : All2 (TV.ok B.K F') ws τ := h.mono fun _ _ q => q.mono s
theorem SF.to {C' : Cs} (h : SF B F Γ C τ σ ws H) (s : Same F F') (hf : HF B F' C' H') : SF B F' Γ C' τ σ ws H' := ⟨hf, h.slots.slots_mono s, h.temps.temps_mono s⟩
theorem ST.push {x : TV} {v : V} (h : SF B F Γ C τ σ ws H) (hv : x.ok B.K F v) : ST B Γ C (x :: τ) σ (v :: ws) H := ⟨F, h.hf, h.slots, .cons hv h.temps⟩
theorem ST.pop {x : TV} {v : V} (h : ST B Γ C (x :: τ) σ (v :: ws) H) : ∃ F, SF B F Γ C τ σ ws H ∧ x.ok B.K F v := by
  obtain ⟨F, h⟩ := h
  cases h.temps with
  | cons hv ht => exact ⟨F, ⟨h.hf, h.slots, ht⟩, hv⟩
/-! ### expressions -/
variable {ta tb tc te : TE} {ca : TA}
theorem ev_var {i : Nat} (h : Γ[i]? = some (some x)) : Ev B (tVar i) Γ C x C := fun τ σ ws H ⟨F, st⟩ Q q => by
  obtain ⟨s, h1, h2⟩ := st.slots.get h
  obtain ⟨v, rfl, h4⟩ := h2 x rfl
  exact ⟨v, h1, q v H (ST.push st h4)⟩
theorem ev_c {v : V} (h : ∀ K F, x.ok K F v) : Ev B (tC v) Γ C x C := fun τ σ ws H ⟨F, st⟩ Q q => q v H (ST.push st (h _ _))
theorem ev_int {n : Int} : Ev B (tC (.int n)) Γ C (tv n) C := ev_c fun _ _ => rfl
theorem ev_bl {n : Bool} : Ev B (tC (.bl n)) Γ C (tv n) C := ev_c fun _ _ => rfl
theorem ev_str {n : Str} : Ev B (tC (.str n)) Γ C (tv n) C := ev_c fun _ _ => rfl
theorem ev_non : Ev B (tC .non) Γ C (tv ()) C := ev_c fun _ _ => rfl
/-- an operation on values that makes nothing -/
def OpS (B : Bs) (C : Cs) (r : R2) (x y z : TV) : Prop := ∀ F H v w, HF B F C H → x.ok B.K F v → y.ok B.K F w → ∀ Q : VK, (∀ u, z.ok B.K F u → Q u H) → r v w H Q
/-- .. that makes a new object -/
def OpN (B : Bs) (C : Cs) (r : R2) (x y : TV) (c : Ct) : Prop := ∀ F H v w, HF B F C H → x.ok B.K F v → y.ok B.K F w → ∀ Q : VK, (∀ p o, H p = none → c.ho B.K F o → Q (.ref p) (upd H p o)) → r v w H Q
theorem ev_op {r : R2} (ha : Ev B ta Γ C x C1) (hb : Ev B tb Γ C1 y C2) (hr : OpS B C2 r x y z) : Ev B (tOp r ta tb) Γ C z C2 := fun τ σ ws H st Q q =>
  ha τ σ ws H st _ fun v H1 s1 => hb _ σ _ H1 s1 _ fun w H2 s2 => by
    obtain ⟨F, s3, hw⟩ := s2.pop
    cases s3.temps with
    | cons hv ht => exact hr F H2 v w s3.hf hv hw Q fun u hu => q u H2 (ST.push ⟨s3.hf, s3.slots, ht⟩ hu)
theorem evn_op {r : R2} (ha : Ev B ta Γ C x C1) (hb : Ev B tb Γ C1 y C2) (hr : OpN B C2 r x y c) : EvN B (tOp r ta tb) Γ C c C2 := fun τ σ ws H st Q q =>
  ha τ σ ws H st _ fun v H1 s1 => hb _ σ _ H1 s1 _ fun w H2 s2 => by
    obtain ⟨F, s3, hw⟩ := s2.pop
    cases s3.temps with
    | cons hv ht => exact hr F H2 v w s3.hf hv hw Q fun p o hp ho => q p _ (s3.hf.free hp).2.2 (s3.hf.free hp).2.1 ⟨F, (s3.hf.cell hp ho).1, s3.slots, ht⟩
/-- a new list that stands for good -/
theorem ev_of {α : Type} [Rp α] {xs : List α} (h : EvN B te Γ C (.lst xs) C') : Ev B te Γ C (tv xs) C' := fun τ σ ws H st Q q =>
  h τ σ ws H st Q fun p H' hB hP ⟨F, s⟩ => by
    obtain ⟨o, h1, ⟨vs, rfl, h3⟩, sF, hf⟩ := s.hf.freeze hB
    have s' := s.to sF hf
    exact q _ _ (ST.push s' ⟨p, vs, rfl, upd_same, h3.mono fun _ _ z => Rp.mono sF z⟩)
/-! arguments -/
theorem ea_nil : EvA B tNil Γ C [] C := fun τ σ ws H st Q q => q [] H st rfl
theorem All2.move {a : V} {b : TV} {K : Frag} : ∀ {vs : List V} {xs : List TV} {ws : List V} {τ : List TV}, All2 (TV.ok K F) (vs ++ (a :: ws)) (xs ++ (b :: τ)) → vs.length = xs.length → All2 (TV.ok K F) ((a :: vs) ++ ws) ((b :: xs) ++ τ) := fun {vs xs ws τ} h hl => by
  obtain ⟨h1, h2⟩ := All2.split h hl
  cases h2 with
  | cons h3 h4 => exact .cons h3 (h1.append h4)
theorem ea_cons {xs : List TV} (h : Ev B ta Γ C x C1) (hr : EvA B ca Γ C1 xs C2) : EvA B (tCons ta ca) Γ C (x :: xs) C2 := fun τ σ ws H st Q q =>
  h τ σ ws H st _ fun v H1 s1 => hr _ σ _ H1 s1 _ fun vs H2 ⟨F, s2⟩ hl => q _ H2 ⟨F, s2.hf, s2.slots, All2.move s2.temps hl⟩ (by simp [hl])
theorem EvA.out {xs : List TV} {vs : List V} (h : ST B Γ C (xs ++ τ) σ (vs ++ ws) H) (hl : vs.length = xs.length) : ∃ F, SF B F Γ C τ σ ws H ∧ All2 (TV.ok B.K F) vs xs := by
  obtain ⟨F, h⟩ := h
  obtain ⟨h1, h2⟩ := All2.split h.temps hl
  exact ⟨F, ⟨h.hf, h.slots, h2⟩, h1⟩
/-- a built-in by values -/
def CbS (B : Bs) (C : Cs) (r : List V → Hp → VK → Prop) (xs : List TV) (z : TV) : Prop := ∀ F H vs, HF B F C H → All2 (TV.ok B.K F) vs xs → ∀ Q : VK, (∀ u, z.ok B.K F u → Q u H) → r vs H Q
def CbN (B : Bs) (C : Cs) (r : List V → Hp → VK → Prop) (xs : List TV) (c : Ct) : Prop := ∀ F H vs, HF B F C H → All2 (TV.ok B.K F) vs xs → ∀ Q : VK, (∀ p o, H p = none → c.ho B.K F o → Q (.ref p) (upd H p o)) → r vs H Q
theorem ev_cb {r} {xs : List TV} (ha : EvA B ca Γ C xs C1) (hr : CbS B C1 r xs z) : Ev B (tCB r ca) Γ C z C1 := fun τ σ ws H st Q q =>
  ha τ σ ws H st _ fun vs H1 s1 hl => by
    obtain ⟨F, s2, hv⟩ := EvA.out s1 hl
    exact hr F H1 vs s2.hf hv Q fun u hu => q u H1 (ST.push s2 hu)
theorem evn_cb {r} {xs : List TV} (ha : EvA B ca Γ C xs C1) (hr : CbN B C1 r xs c) : EvN B (tCB r ca) Γ C c C1 := fun τ σ ws H st Q q =>
  ha τ σ ws H st _ fun vs H1 s1 hl => by
    obtain ⟨F, s2, hv⟩ := EvA.out s1 hl
    exact hr F H1 vs s2.hf hv Q fun p o hp ho => q p _ (s2.hf.free hp).2.2 (s2.hf.free hp).2.1 ⟨F, (s2.hf.cell hp ho).1, s2.slots, s2.temps⟩
theorem vals_tv {α : Type} [Rp α] {K : Frag} {F : Hp} : ∀ {xs : List α} {vs : List V}, All2 (TV.ok K F) vs (xs.map fun x => tv x) → All2 (Rp.rp K F) vs xs
  | [], _, .nil => .nil
  | _ :: _, _, .cons h t => .cons h (vals_tv t)
/-- displays -/
theorem evn_lst {α : Type} [Rp α] {xs : List α} (ha : EvA B ca Γ C (xs.map fun x => tv x) C1) (hz : xs.length ≤ sizeLine) : EvN B (tLst ca) Γ C (.lst xs) C1 := fun τ σ ws H st Q q =>
  ha τ σ ws H st _ fun vs H1 s1 hl => by
    obtain ⟨F, s2, hv⟩ := EvA.out s1 hl
    rw [List.length_map] at hl
    have hv' : All2 (Rp.rp B.K F) vs xs := by
      exact vals_tv hv
    exact ⟨by omega, fun p hp => q p _ (s2.hf.free hp).2.2 (s2.hf.free hp).2.1 ⟨F, (s2.hf.cell (c := .lst xs) hp ⟨vs, rfl, hv'⟩).1, s2.slots, s2.temps⟩⟩
theorem ev_tup {xs : List TV} {z : TV} (ha : EvA B ca Γ C xs C1) (hz : xs.length ≤ sizeLine) (hr : ∀ K F vs a, F a = some (.tup vs) → All2 (TV.ok K F) vs xs → z.ok K F (.ref a)) : Ev B (tTup ca) Γ C z C1 := fun τ σ ws H st Q q =>
  ha τ σ ws H st _ fun vs H1 s1 hl => by
    obtain ⟨F, s2, hv⟩ := EvA.out s1 hl
    refine ⟨by omega, fun p hp => ?_⟩
    obtain ⟨hf, sF, sH⟩ := s2.hf.laid (o := .tup vs) hp
    exact q _ _ (ST.push (s2.to sF hf) (hr _ _ _ _ upd_same (hv.temps_mono sF)))
/-! tests -/
variable {t u : TT} {b b' : Bool}
theorem et_test (h : Ev B te Γ C (tv b) C1) : EvT B (tTest te) Γ C b C1 := fun τ σ ws H st Q q => h τ σ ws H st _ fun v H1 s1 => by
  obtain ⟨F, s2, hv⟩ := s1.pop
  exact ⟨b, hv, q H1 ⟨F, s2⟩⟩
theorem et_B (h : Ev B te Γ C (tv b) C1) : EvT B (tB te) Γ C b C1 := fun τ σ ws H st Q q => h τ σ ws H st _ fun v H1 s1 => by
  obtain ⟨F, s2, hv⟩ := s1.pop
  exact ⟨b, hv, q H1 ⟨F, s2⟩⟩
theorem et_not (h : EvT B t Γ C b C1) : EvT B (tNot t) Γ C (!b) C1 := fun τ σ ws H st Q q => h τ σ ws H st _ fun H1 s1 => q H1 s1
theorem et_or (h1 : EvT B t Γ C b C1) (h2 : b = false → EvT B u Γ C1 b' C1) : EvT B (tOr t u) Γ C (b || b') C1 := fun τ σ ws H st Q q => h1 τ σ ws H st _ fun H1 s1 => by
  cases b with
  | true => exact q H1 s1
  | false => exact h2 rfl τ σ ws H1 s1 Q q
theorem ev_andV (h1 : Ev B ta Γ C (tv b) C1) (h2 : b = true → Ev B tb Γ C1 (tv b') C1) : Ev B (tAndV ta tb) Γ C (tv (b && b')) C1 := fun τ σ ws H st Q q => h1 τ σ ws H st _ fun v H1 s1 => by
  obtain ⟨F, s2, hv⟩ := s1.pop
  refine ⟨b, hv, ?_⟩
  cases b with
  | true => exact h2 rfl τ σ ws H1 ⟨F, s2⟩ Q q
  | false => exact q _ H1 (ST.push s2 rfl)
theorem ev_if (h : EvT B t Γ C b C1) (h1 : b = true → Ev B ta Γ C1 x C2) (h2 : b = false → Ev B tb Γ C1 x C2) : Ev B (tIf t ta tb) Γ C x C2 := fun τ σ ws H st Q q => h τ σ ws H st _ fun H1 s1 => by
  cases b with
  | true => exact h1 rfl τ σ ws H1 s1 Q q
  | false => exact h2 rfl τ σ ws H1 s1 Q q
theorem et_is (h : EvT B t Γ C b C1) (e : b = b') : EvT B t Γ C b' C1 := e ▸ h
/-! ### statements -/
variable {D : EndT} {ts tu tw : TS}
theorem ss_set {i : Nat} (h : Ev B te Γ C x C1) (k : Ss B tu (Γ.set i (some x)) C1 D) : Ss B (tSeq (tAsg te (gName i)) tu) Γ C D := fun τ σ ws H st E im =>
  h τ σ ws H st _ fun v H1 s1 => by
    obtain ⟨F, s2, hv⟩ := s1.pop
    exact k τ _ ws H1 ⟨F, s2.hf, s2.slots.set (fun t e => by cases e; exact ⟨v, rfl, hv⟩) i, s2.temps⟩ E im
theorem ss_setN {i : Nat} (h : EvN B te Γ C c C1) (k : ∀ p, B.H p = none → Ss B tu (Γ.set i (some (tv (Ptr.mk p)))) ((p, c) :: C1) D) : Ss B (tSeq (tAsg te (gName i)) tu) Γ C D := fun τ σ ws H st E im =>
  h τ σ ws H st _ fun p H1 hB hP ⟨F, s2⟩ => k p hB τ _ ws H1 ⟨F, s2.hf, s2.slots.set (fun t e => by cases e; exact ⟨.ref p, rfl, rfl⟩) i, s2.temps⟩ E im
theorem ss_ret (h : Ev B te Γ C x C1) (e : ∀ H v, RetV B x C1 v H → D.rt v H) : Ss B (tRet te) Γ C D := fun τ σ ws H st E im =>
  h τ σ ws H st _ fun v H1 s1 => by
    obtain ⟨F, s2, hv⟩ := s1.pop
    exact im.rt _ _ (e H1 v ⟨F, s2.hf, hv⟩)
theorem ss_retN (h : EvN B te Γ C c C1) (e : ∀ H v, RetN B c C1 v H → D.rt v H) : Ss B (tRet te) Γ C D := fun τ σ ws H st E im =>
  h τ σ ws H st _ fun p H1 hB hP ⟨F, s2⟩ => im.rt _ _ (e H1 _ ⟨p, F, rfl, hB, hP, s2.hf⟩)
theorem ss_drop (h : Ev B te Γ C x C1) (k : Ss B tu Γ C1 D) : Ss B (tSeq (tDrop te) tu) Γ C D := fun τ σ ws H st E im =>
  h τ σ ws H st _ fun v H1 s1 => by
    obtain ⟨F, s2, hv⟩ := s1.pop
    exact k τ _ ws H1 ⟨F, s2⟩ E im
/-- if, each way on its own -/
theorem ss_if (h : EvT B t Γ C b C1) (h1 : b = true → Ss B (tSeq ts tu) Γ C1 D) (h2 : b = false → Ss B (tSeq tw tu) Γ C1 D) : Ss B (tSeq (tIfS t ts tw) tu) Γ C D := fun τ σ ws H st E im =>
  h τ σ ws H st _ fun H1 s1 => by
    cases b with
    | true => exact h1 rfl τ σ ws H1 s1 E im
    | false => exact h2 rfl τ σ ws H1 s1 E im
/-- regrouping -/
theorem ss_assoc (h : Ss B (tSeq ts (tSeq tw tu)) Γ C D) : Ss B (tSeq (tSeq ts tw) tu) Γ C D := h
theorem ss_skip (h : Ss B tu Γ C D) : Ss B (tSeq tNext tu) Γ C D := h
theorem ss_next (h : ∀ τ ws σ H, ST B Γ C τ σ ws H → D.nx τ ws σ H) : Ss B tNext Γ C D := fun τ σ ws H st E im => im.nx _ _ (h τ ws σ H st)
/-- a last statement with an empty rest -/
theorem ss_end (h : Ss B (tSeq ts tNext) Γ C D) : Ss B ts Γ C D := h
/-- the names that are no more spoken of -/
abbrev Wk : List Sl → List Sl → Prop := All2 fun g g' => g' = none ∨ g' = g
theorem Wk.refl : ∀ Γ : List Sl, Wk Γ Γ
  | [] => .nil
  | _ :: Γ => .cons (.inr rfl) (Wk.refl Γ)
theorem Wk.slots {K : Frag} : ∀ {σ : St} {Γ Γ' : List Sl}, Wk Γ Γ' → All2 (slOk K F) σ Γ → All2 (slOk K F) σ Γ'
  | _, _, _, .nil, .nil => .nil
  | _, _, _, .cons h t, .cons h1 t1 => .cons (h.elim (fun e _ z => by rw [e] at z; cases z) fun e => e ▸ h1) (Wk.slots t t1)
theorem ST.weak (w : Wk Γ Γ') (h : ST B Γ C τ σ ws H) : ST B Γ' C τ σ ws H := let ⟨F, s⟩ := h; ⟨F, s.hf, w.slots s.slots, s.temps⟩
theorem ss_weak (w : Wk Γ Γ') (h : Ss B ts Γ' C D) : Ss B ts Γ C D := fun τ σ ws H st E im => h τ σ ws H (st.weak w) E im
end
end T
set_option Elab.async false
set_option linter.all false
set_option maxRecDepth 100000
set_option maxHeartbeats 2000000
set_option autoImplicit false
namespace T
open PySem PySem.Spec PyProof.Rows L2
open PySem.W (Frag)
/-! ### targets -/
/-- the target takes x: which slots it writes, what stands in them then -/
def Tg (B : Bs) (g : TG) (js : List Nat) (x : TV) (Γ Γ' : List Sl) : Prop :=
  ∀ F C σ v H, HF B F C H → All2 (slOk B.K F) σ Γ → x.ok B.K F v → ∀ Q : St → Hp → Prop, (∀ σ', All2 (slOk B.K F) σ' Γ' → (∀ i, i ∉ js → σ'[i]? = σ[i]?) → σ'.length = σ.length → Q σ' H) → g v σ H Q
section
variable {B : Bs} {Γ Γ' Γ2 : List Sl} {x : TV}
theorem tg_name {i : Nat} : Tg B (gName i) [i] x Γ (Γ.set i (some x)) := fun F C σ v H hf hs hx Q q =>
  q _ (hs.set (fun t e => by cases e; exact ⟨v, rfl, hx⟩) i) (fun j hj => by
    have : i ≠ j := fun e => hj (by simp [e])
    rw [List.getElem?_set_ne this]) (by simp)
/-- a, b = a pair -/
theorem tg_pair {α β : Type} [Rp α] [Rp β] {x : α × β} {i j : Nat} : Tg B (gTup B.K 2 (gCons (gName i) (gCons (gName j) gNil))) [i, j] (tv x) Γ ((Γ.set i (some (tv x.1))).set j (some (tv x.2))) := fun F C σ v H hf hs hx Q q => by
  obtain ⟨a, v1, v2, rfl, h, r1, r2⟩ := hx
  refine ⟨a, [v1, v2], rfl, .inl (.inl (hf.sub _ _ h)), rfl, v1, [v2], rfl, v2, [], rfl, rfl, ?_⟩
  refine q _ ((hs.set (fun t e => by cases e; exact ⟨v1, rfl, r1⟩) i).set (fun t e => by cases e; exact ⟨v2, rfl, r2⟩) j) (fun k hk => ?_) (by simp)
  have h1 : i ≠ k := fun e => hk (by simp [e])
  have h2 : j ≠ k := fun e => hk (by simp [e])
  rw [List.getElem?_set_ne h2, List.getElem?_set_ne h1]
end
/-! ### what is walked -/
def Walk (B : Bs) (J : It) (v : V) (k : TV) {α : Type} [Rp α] (xs : List α) : Prop :=
  ∀ i F C H, HF B F C H → k.ok B.K F v → (xs.length ≤ i → J.stop i H) ∧ ∀ a, xs[i]? = some a → J.go i H ∧ ∀ x H', J.yld i H x H' → ∃ F', Same F F' ∧ HF B F' C H' ∧ Rp.rp B.K F' x a
/-- iter gives the things xs; k, the thing that is walked, is kept meanwhile -/
def EvI (B : Bs) (wi : TI) (Γ : List Sl) (C : Cs) {α : Type} [Rp α] (xs : List α) (C' : Cs) : Prop :=
  ∀ τ σ ws H, ST B Γ C τ σ ws H → ∀ R : It → Hp → Prop, (∀ J k v H', ST B Γ C' (k :: τ) σ (v :: ws) H' → Walk B J v k xs → R J H') → wi σ H R
section
variable {B : Bs} {F F' : Hp} {Γ Γ' Γ2 : List Sl} {C C' C1 C2 C3 : Cs} {τ : List TV} {σ : St} {ws : List V} {H H' : Hp} {x y z : TV} {c : Ct}
variable {ta tc te : TE} {ca : TA} {D : EndT} {ts tu tw tb : TS} {wi : TI} {g : TG}
theorem SqL.rd {K : Frag} {H : Hp} {a : Addr} {xs : List V} (h : Rd H a (.lst xs)) : SqL K H a xs := .inl h
theorem ei_list {α : Type} [Rp α] {xs : List α} (h : Ev B te Γ C (tv xs) C1) : EvI B (iList B.K te) Γ C xs C1 := fun τ σ ws H st R q =>
  h τ σ ws H st _ fun v H1 s1 => by
    obtain ⟨F, s2, a, vs, rfl, hl, hr⟩ := s1.pop
    refine ⟨a, rfl, ⟨vs, SqL.rd (s2.hf.sub.rd (.inl hl))⟩, q _ _ _ H1 s1 fun i F C H hf hk => ?_⟩
    obtain ⟨a', vs', e, hl', hr'⟩ := hk
    cases e
    have hq := SqL.rd (K := B.K) (hf.sub.rd (.inl hl'))
    refine ⟨fun hi => ⟨vs', hq, by rw [hr'.length]; exact hi⟩, fun b hb => ?_⟩
    obtain ⟨w, hw, hb'⟩ := hr'.get hb
    exact ⟨⟨vs', w, hq, hw⟩, fun x H' hy => by
      obtain ⟨rfl, fy⟩ := hy
      have := fy vs' hq
      rw [hw] at this
      cases this
      exact ⟨F, Same.refl F, hf, hb'⟩⟩
theorem SqT.rd {K : Frag} {H : Hp} {a : Addr} {xs : List V} (h : H a = some (.tup xs)) : SqT K H a xs := .inl (.inl h)
/-- lo, lo + 1, .. -/
def rng (lo hi : Int) : List Int := (List.range (hi - lo).toNat).map fun (i : Nat) => lo + (i : Int)
theorem rng_length (lo hi : Int) : (rng lo hi).length = (hi - lo).toNat := by simp [rng]
theorem rng_get {lo hi : Int} {i : Nat} {a : Int} (h : (rng lo hi)[i]? = some a) : i < (hi - lo).toNat ∧ a = lo + i := by
  unfold rng at h
  rw [List.getElem?_map] at h
  by_cases hi' : i < (hi - lo).toNat
  · rw [List.getElem?_range hi'] at h
    cases h
    exact ⟨hi', rfl⟩
  · rw [List.getElem?_eq_none (by simpa using hi')] at h
    cases h
theorem rng_walk {lo hi : Int} {v : V} {k : TV} : Walk B (Itr lo (hi - lo).toNat) v k (rng lo hi) := fun i F C H hf hk =>
  ⟨fun h => by rw [rng_length] at h; exact h, fun a ha => ⟨(rng_get ha).1, fun x H' hy => by
    obtain ⟨rfl, rfl⟩ := hy
    exact ⟨F, Same.refl F, hf, by rw [(rng_get ha).2]; rfl⟩⟩⟩
theorem ei_rng1 {n : Int} (h : EvA B ca Γ C [tv n] C1) (hn : n < 2 ^ 62 ∧ -(2 ^ 62) ≤ n) : EvI B (iRng1 ca) Γ C (rng 0 n) C1 := fun τ σ ws H st R q =>
  h τ σ ws H st _ fun vs H1 s1 hl => by
    obtain ⟨F, s2, hv⟩ := EvA.out s1 hl
    cases hv with
    | cons h1 h2 =>
      cases h2
      cases h1
      have w := rng_walk (B := B) (lo := 0) (hi := n) (v := .non) (k := tv ())
      rw [Int.sub_zero] at w
      exact ⟨n, rfl, hn.2, hn.1, q _ (tv ()) .non H1 (ST.push s2 rfl) w⟩
/-! ### for -/
theorem take_snoc {α : Type} {xs : List α} {i : Nat} {a : α} (h : xs[i]? = some a) : xs.take (i + 1) = xs.take i ++ [a] ∧ xs = xs.take i ++ a :: xs.drop (i + 1) := by
  obtain ⟨hi, e⟩ := List.getElem?_eq_some_iff.mp h
  subst e
  exact ⟨by rw [List.take_succ, h]; rfl, by rw [List.getElem_cons_drop, List.take_append_drop]⟩
theorem ss_for {α : Type} [Rp α] {xs : List α} {js : List Nat} (I : List α → List Sl → Cs → Prop) (Ib : List Sl → Cs → Prop) (hi : EvI B wi Γ C xs C1) (h0 : I [] Γ C1)
    (hs : ∀ pre x post Γ' C', xs = pre ++ x :: post → I pre Γ' C' → ∃ Γ2, Tg B g js (tv x) Γ' Γ2 ∧
      Ss B tb Γ2 C' ⟨fun τ ws σ H => ∃ Γ3 C3, I (pre ++ [x]) Γ3 C3 ∧ ST B Γ3 C3 τ σ ws H, D.rt, fun τ ws σ H => ∃ Γ3 C3, Ib Γ3 C3 ∧ ST B Γ3 C3 τ σ ws H, fun τ ws σ H => ∃ Γ3 C3, I (pre ++ [x]) Γ3 C3 ∧ ST B Γ3 C3 τ σ ws H⟩)
    (hd : ∀ Γ' C', I xs Γ' C' ∨ Ib Γ' C' → Ss B tu Γ' C' D) : Ss B (tSeq (tFor wi g tb) tu) Γ C D := fun τ σ ws H st E im =>
  hi τ σ ws H st _ fun J k v H1 s1 wk => by
    refine ⟨fun i m σ H => m = xs.length - i ∧ i ≤ xs.length ∧ ∃ Γ' C', I (xs.take i) Γ' C' ∧ ST B Γ' C' (k :: τ) σ (v :: ws) H, ⟨_, rfl, Nat.zero_le _, Γ, C1, h0, s1⟩, ?_⟩
    rintro i m σ H ⟨rfl, hle, Γ', C', hI, s⟩
    obtain ⟨F, s3, hk⟩ := s.pop
    obtain ⟨w1, w2⟩ := wk i F C' H s3.hf hk
    by_cases hlt : i < xs.length
    · obtain ⟨go, hy⟩ := w2 xs[i] (List.getElem?_eq_getElem hlt)
      obtain ⟨t1, t2⟩ := take_snoc (List.getElem?_eq_getElem hlt)
      obtain ⟨Γ2, tg, hb⟩ := hs _ _ _ Γ' C' t2 hI
      refine .inr ⟨go, fun σ H => ∃ Γ' C', I (xs.take (i + 1)) Γ' C' ∧ ST B Γ' C' (k :: τ) σ (v :: ws) H, fun σ' H' hN => ⟨_, by omega, rfl, hlt, hN⟩, fun x H' hx => ?_⟩
      obtain ⟨F', sF, hf', hx'⟩ := hy x H' hx
      refine tg F' C' σ x H' hf' (s3.slots.slots_mono sF) hx' _ fun σ' hσ _ _ => ?_
      refine hb (k :: τ) σ' (v :: ws) H' ⟨F', hf', hσ, .cons (hk.mono sF) (s3.temps.temps_mono sF)⟩ _ ⟨fun σ H h => ?_, fun v H h => im.rt _ _ h, fun σ H h => ?_, fun σ H h => ?_⟩
      · rw [t1]; exact h
      · obtain ⟨Γ3, C3, h1, h2⟩ := h
        obtain ⟨F3, h3, _⟩ := h2.pop
        exact hd Γ3 C3 (.inr h1) τ σ ws H ⟨F3, h3⟩ E im
      · rw [t1]; exact h
    · have e : xs.take i = xs := List.take_of_length_le (by omega)
      rw [e] at hI
      exact .inl ⟨w1 (by omega), hd Γ' C' (.inl hI) τ σ ws H ⟨F, s3⟩ E im⟩
/-! ### list comprehensions -/
def wipeG (Γ : List Sl) : List Nat → List Sl
  | [] => Γ
  | v :: vs => (wipeG Γ vs).set v none
theorem wipe_ok {K : Frag} {F : Hp} {σ : St} {Γ : List Sl} (h : All2 (slOk K F) σ Γ) : ∀ vs, All2 (slOk K F) (wipe σ vs) (wipeG Γ vs)
  | [] => h
  | v :: vs => (wipe_ok h vs).set (fun _ e => nomatch e) v
theorem wipe_get {σ : St} {i : Nat} : ∀ {vs : List Nat}, (wipe σ vs)[i]? = if i ∈ vs then (if i < σ.length then some none else none) else σ[i]?
  | [] => by simp [wipe]
  | v :: vs => by
    unfold wipe
    by_cases h : v = i
    · subst h
      by_cases hl : v < σ.length
      · rw [List.getElem?_set_self (by rw [wipe_length]; exact hl)]
        simp [hl]
      · rw [List.getElem?_eq_none (by rw [List.length_set, wipe_length]; omega)]
        simp [hl]
    · rw [List.getElem?_set_ne h, wipe_get]
      have h' : ¬ i = v := fun e => h e.symm
      simp [h']
theorem wipe_same {σ σ' : St} {js vs : List Nat} (h : ∀ i, i ∉ js → σ'[i]? = (wipe σ vs)[i]?) (hl : σ'.length = (wipe σ vs).length) (hj : ∀ j ∈ js, j ∈ vs) : wipe σ' vs = wipe σ vs := by
  apply List.ext_getElem?
  intro i
  rw [wipe_get, wipe_get]
  have hl' : σ'.length = σ.length := hl.trans (wipe_length σ vs)
  by_cases hi : i ∈ vs
  · simp [hi, hl']
  · have := h i fun z => hi (hj i z)
    rw [wipe_get] at this
    simp [hi] at this ⊢
    exact this
/-- the slots' things as temporary ones -/
theorem slots_temps {K : Frag} {F : Hp} : ∀ {σ : St} {Γ : List Sl}, All2 (slOk K F) σ Γ → ∃ vs, All2 (TV.ok K F) vs (Γ.filterMap id) ∧ ∀ F', All2 (TV.ok K F') vs (Γ.filterMap id) → All2 (slOk K F') σ Γ
  | _, _, .nil => ⟨[], .nil, fun _ _ => .nil⟩
  | s :: σ, none :: Γ, .cons h t => by
    obtain ⟨vs, h1, h2⟩ := slots_temps t
    exact ⟨vs, h1, fun F' q => .cons (fun _ e => nomatch e) (h2 F' q)⟩
  | s :: σ, some x :: Γ, .cons h t => by
    obtain ⟨vs, h1, h2⟩ := slots_temps t
    obtain ⟨v, rfl, hv⟩ := h x rfl
    exact ⟨v :: vs, .cons hv h1, fun F' q => by
      cases q with
      | cons q1 q2 => exact .cons (fun t e => by cases e; exact ⟨v, rfl, q1⟩) (h2 F' q2)⟩
theorem evn_lc {α β : Type} [Rp α] [Rp β] {xs : List α} {js vs : List Nat} {tt : TT} (I : List α → List β → Cs → Prop) (hi : EvI B wi Γ C xs C1) (hj : ∀ j ∈ js, j ∈ vs) (h0 : I [] [] C1)
    (hs : ∀ pre x post ys C' p, xs = pre ++ x :: post → I pre ys C' → ∃ Γ2 b, Tg B g js (tv x) (wipeG Γ vs) Γ2 ∧ EvT B tt Γ2 ((p, .lst ys) :: C') b ((p, .lst ys) :: C') ∧
      (b = true → ∃ y C'', Ev B te Γ2 ((p, .lst ys) :: C') (tv y) ((p, .lst ys) :: C'') ∧ ys.length < sizeLine ∧ I (pre ++ [x]) (ys ++ [y]) C'') ∧ (b = false → I (pre ++ [x]) ys C'))
    {ys : List β} (hd : ∀ ys' C', I xs ys' C' → ys' = ys ∧ C' = C2) : EvN B (tLc wi g tt te vs) Γ C (.lst ys) C2 := fun τ σ ws H st Q q =>
  hi τ σ ws H st _ fun J k v H1 s1 wk => by
    intro p hp
    have sp : ∃ F, SF B F Γ ((p, .lst ([] : List β)) :: C1) (k :: τ) σ (v :: ws) (upd H1 p (.lst [])) := by
      obtain ⟨F, s⟩ := s1
      exact ⟨F, (s.hf.cell (c := .lst ([] : List β)) (o := .lst []) hp ⟨[], rfl, .nil⟩).1, s.slots, s.temps⟩
    have hpB : B.H p = none ∧ p ∉ B.P := by
      obtain ⟨F, s⟩ := s1
      exact ⟨(s.hf.free hp).2.2, (s.hf.free hp).2.1⟩
    refine ⟨fun i m H => m = xs.length - i ∧ i ≤ xs.length ∧ ∃ ys C', I (xs.take i) ys C' ∧ ST B Γ ((p, .lst ys) :: C') (k :: τ) σ (v :: ws) H, ⟨_, rfl, Nat.zero_le _, [], C1, h0, sp⟩, ?_⟩
    rintro i m H ⟨rfl, hle, ys', C', hI, s⟩
    obtain ⟨F, s3, hk⟩ := s.pop
    obtain ⟨w1, w2⟩ := wk i F _ H s3.hf hk
    by_cases hlt : i < xs.length
    · obtain ⟨go, hy⟩ := w2 xs[i] (List.getElem?_eq_getElem hlt)
      obtain ⟨t1, t2⟩ := take_snoc (List.getElem?_eq_getElem hlt)
      obtain ⟨Γ2, b, tg, ht, hT, hF⟩ := hs _ _ _ ys' C' p t2 hI
      refine .inr ⟨go, fun H => ∃ ys C', I (xs.take (i + 1)) ys C' ∧ ST B Γ ((p, .lst ys) :: C') (k :: τ) σ (v :: ws) H, fun H' hN => ⟨_, by omega, rfl, hlt, hN⟩, fun x H' hx => ?_⟩
      obtain ⟨F', sF, hf', hx'⟩ := hy x H' hx
      have sl := s3.slots.slots_mono sF
      refine tg F' _ (wipe σ vs) x H' hf' (wipe_ok sl vs) hx' _ fun σ' hσ h1 h2 => ⟨wipe_same h1 h2 hj, ?_⟩
      obtain ⟨us, hus, back⟩ := slots_temps sl
      have st2 : ST B Γ2 ((p, .lst ys') :: C') (Γ.filterMap id ++ (k :: τ)) σ' (us ++ (v :: ws)) H' := ⟨F', hf', hσ, hus.append (.cons (hk.mono sF) (s3.temps.temps_mono sF))⟩
      have fin : ∀ {C4 : Cs} {F4 : Hp} {H4 : Hp}, HF B F4 C4 H4 → All2 (TV.ok B.K F4) (us ++ (v :: ws)) (Γ.filterMap id ++ (k :: τ)) → ST B Γ C4 (k :: τ) σ (v :: ws) H4 := fun {C4 F4 H4} h1 h2 => by
        obtain ⟨h3, h4⟩ := All2.split h2 hus.length
        exact ⟨F4, h1, back F4 h3, h4⟩
      refine ht _ σ' _ H' st2 _ fun H3 s4 => ?_
      cases b with
      | true =>
        rw [if_pos rfl]
        obtain ⟨y, C'', hy1, hy2, hy3⟩ := hT rfl
        refine hy1 _ σ' _ H3 s4 _ fun w H4 s5 => ?_
        obtain ⟨F5, s6, hw⟩ := s5.pop
        obtain ⟨_, ⟨o, ho1, ⟨acc, rfl, ho2⟩⟩, _⟩ := s6.hf.cells (p, .lst ys') List.mem_cons_self
        refine ⟨acc, ho1, by rw [ho2.length]; exact hy2, ys' ++ [y], C'', by rw [t1]; exact hy3, ?_⟩
        exact fin (s6.hf.write (k := 0) (c' := .lst (ys' ++ [y])) (o' := .lst (acc ++ [w])) rfl ⟨_, rfl, ho2.append (.cons hw .nil)⟩) s6.temps
      | false =>
        rw [if_neg Bool.false_ne_true]
        obtain ⟨F5, s6⟩ := s4
        exact ⟨ys', C', by rw [t1]; exact hF rfl, fin s6.hf s6.temps⟩
    · have e : xs.take i = xs := List.take_of_length_le (by omega)
      rw [e] at hI
      obtain ⟨rfl, rfl⟩ := hd ys' C' hI
      exact .inl ⟨w1 (by omega), q p H hpB.1 hpB.2 ⟨F, s3⟩⟩
end
end T
set_option Elab.async false
set_option linter.all false
set_option maxRecDepth 100000
set_option maxHeartbeats 2000000
set_option autoImplicit false
namespace T
open PySem PySem.Spec PyProof.Rows L2
open PySem.W (Frag)
/-! ### defs: what they promise -/
/-- what stands at a call -/
structure Entry (K : Frag) (F : Hp) (args : List TV) (C : Cs) (vs : List V) (H : Hp) : Prop where
  vals : All2 (TV.ok K F) vs args
  hf : HF ⟨K, H, F, C.map (·.1)⟩ F C H
abbrev Bs.at (K : Frag) (H F : Hp) (C : Cs) : Bs := ⟨K, H, F, C.map (·.1)⟩
/-- S: arguments, cells, the value handed back, the cells behind -/
abbrev SpecV := List TV → Cs → TV → Cs → Prop
abbrev SpecN := List TV → Cs → Ct → Cs → Prop
def SpV (S : SpecV) (K : Frag) : Sp := fun vs H Q _ => ∃ F args C r C', S args C r C' ∧ C'.map (·.1) = C.map (·.1) ∧ Entry K F args C vs H ∧ ∀ v H', RetV (Bs.at K H F C) r C' v H' → Q v H'
/-- .. a new list or dict -/
def SpN (S : SpecN) (K : Frag) : Sp := fun vs H Q _ => ∃ F args C r C', S args C r C' ∧ C'.map (·.1) = C.map (·.1) ∧ Entry K F args C vs H ∧ ∀ v H', RetN (Bs.at K H F C) r C' v H' → Q v H'
section
variable {B : Bs} {F F' : Hp} {Γ Γ' Γ2 : List Sl} {C C' C1 C2 C3 R : Cs} {τ : List TV} {σ : St} {ws : List V} {H H' : Hp} {x y z : TV} {c : Ct}
variable {ta tc te : TE} {ca : TA} {D : EndT} {ts tu tw tb : TS} {wi : TI} {g : TG}
/-- from a caller's heap to the callee's -/
theorem HF.enter (h : HF B F (C ++ R) H) : HF (Bs.at B.K H F C) F C H where
  sub := h.sub
  base := Same.refl F
  new := fun a o e n => by have e' : F a = none := n; rw [e] at e'; cases e'
  old := fun _ _ e _ => e
  cells := fun p hp => by
    obtain ⟨h1, h2, _⟩ := h.cells p (List.mem_append_left _ hp)
    exact ⟨h1, h2, .inl (List.mem_map.mpr ⟨p, hp, rfl⟩)⟩
  nd := by
    have := h.nd
    rw [List.map_append] at this
    exact (List.nodup_append.mp this).1
  pal := fun a ha z => by
    obtain ⟨p, hp, rfl⟩ := List.mem_map.mp ha
    obtain ⟨_, ⟨o, h2, _⟩, _⟩ := h.cells p (List.mem_append_left _ hp)
    rw [h2] at z; cases z
  pb := fun a ha z => by
    obtain ⟨p, hp, rfl⟩ := List.mem_map.mp ha
    obtain ⟨_, ⟨o, h2, _⟩, _⟩ := h.cells p (List.mem_append_left _ hp)
    have z' : H p.1 = none := z
    rw [h2] at z'; cases z'
/-- and back: N the callee's new cells -/
theorem HF.leave {N : Cs} (h : HF B F (C ++ R) H) (h' : HF (Bs.at B.K H F C) F' (N ++ C') H') (hk : C'.map (·.1) = C.map (·.1)) (hN : ∀ p ∈ N, H p.1 = none) : HF B F' (N ++ (C' ++ R)) H' := by
  have keyP : ∀ p ∈ C', ∃ q ∈ C, q.1 = p.1 := fun p hp => by
    have : p.1 ∈ C.map (·.1) := by rw [← hk]; exact List.mem_map.mpr ⟨p, hp, rfl⟩
    exact List.mem_map.mp this
  have ndR : ∀ p ∈ R, p.1 ∉ C.map (·.1) := fun p hp z => by
    have := h.nd
    rw [List.map_append] at this
    exact (List.nodup_append.mp this).2.2 _ z _ (List.mem_map.mpr ⟨p, hp, rfl⟩) rfl
  have rOld : ∀ p ∈ R, ∀ o, H p.1 = some o → H' p.1 = some o := fun p hp o e => h'.old p.1 o e (ndR p hp)
  refine ⟨h'.sub, h.base.trans h'.base, fun a o e n => ?_, fun a o e ha => ?_, fun p hp => ?_, ?_, fun a ha z => ?_, h.pb⟩
  · cases q : F a with
    | some u =>
      have z := h'.base a u q
      rw [e] at z
      cases z
      exact h.new a o q n
    | none =>
      rcases h'.new a o e q with this | hx
      · exact .inl (h.free this).2.2
      · exact .inr hx
  · refine h'.old a o (h.old a o e ha) fun z => ?_
    obtain ⟨q, hq, rfl⟩ := List.mem_map.mp z
    obtain ⟨_, _, h3⟩ := h.cells q (List.mem_append_left _ hq)
    rcases h3 with h3 | h3
    · exact ha h3
    · rw [e] at h3; cases h3
  · rcases List.mem_append.mp hp with hp | hp
    · obtain ⟨h1, h2, _⟩ := h'.cells p (List.mem_append_left _ hp)
      exact ⟨h1, h2, .inr (h.free (hN p hp)).2.2⟩
    · rcases List.mem_append.mp hp with hp | hp
      · obtain ⟨h1, h2, _⟩ := h'.cells p (List.mem_append_right _ hp)
        obtain ⟨q, hq, e⟩ := keyP p hp
        obtain ⟨_, _, h3⟩ := h.cells q (List.mem_append_left _ hq)
        exact ⟨h1, h2, e ▸ h3⟩
      · obtain ⟨h1, ⟨o, h2, h2'⟩, h3⟩ := h.cells p (List.mem_append_right _ hp)
        refine ⟨?_, ⟨o, rOld p hp o h2, h2'.mono h'.base⟩, h3⟩
        cases q : F' p.1 with
        | none => rfl
        | some u =>
          rcases h'.new p.1 u q h1 with this | ⟨xs, rfl⟩
          · have this' : H p.1 = none := this
            rw [h2] at this'; cases this'
          · have z := h'.sub _ _ q
            rw [rOld p hp o h2] at z
            cases z
            exact absurd h2' Ct.ho_tup
  · have n1 := h'.nd
    have n2 := h.nd
    rw [List.map_append] at n1 n2
    rw [List.map_append, List.map_append]
    refine List.nodup_append.mpr ⟨(List.nodup_append.mp n1).1, ?_, fun a ha b hb e => ?_⟩
    · rw [hk]; exact n2
    · subst e
      rcases List.mem_append.mp hb with hb | hb
      · exact (List.nodup_append.mp n1).2.2 _ ha _ hb rfl
      · obtain ⟨p, hp, e⟩ := List.mem_map.mp ha
        obtain ⟨q, hq, e2⟩ := List.mem_map.mp hb
        obtain ⟨_, ⟨o, h2, _⟩, _⟩ := h.cells q (List.mem_append_right _ hq)
        have := hN p hp
        rw [e, ← e2, h2] at this; cases this
  · by_cases hc : a ∈ C.map (·.1)
    · exact h'.pal a hc z
    · have := h.pal a ha
      cases q : H a with
      | none => exact this q
      | some o =>
        have := h'.old a o q hc
        rw [z] at this; cases this
/-- a call: the first cells are the callee's -/
theorem ev_callA {S : SpecV} {xs : List TV} {E : XK} {Cp Cp' R : Cs} (ha : EvA B ca Γ C xs C1) (hp : C1.Perm (Cp ++ R)) (hp' : (Cp' ++ R).Perm C2) (hk : Cp'.map (·.1) = Cp.map (·.1)) (hS : S xs Cp x Cp') : Ev B (tCall (SpV S B.K) [] E ca) Γ C x C2 := fun τ σ ws H st Q q =>
  ha τ σ ws H st _ fun vs H1 s1 hl => by
    obtain ⟨F, s2, hv⟩ := EvA.out s1 hl
    show SpV S B.K (vs ++ []) H1 Q E
    rw [List.append_nil]
    have hfp := s2.hf.perm hp
    refine ⟨F, xs, Cp, x, Cp', hS, hk, ⟨hv, hfp.enter⟩, fun v H' ⟨F', h1, h2⟩ => ?_⟩
    have := hfp.leave (N := []) (C' := Cp') h1 hk (fun _ z => nomatch z)
    exact q v H' (ST.push (s2.to h1.base (this.perm hp')) h2)
theorem evn_callA {S : SpecN} {xs : List TV} {E : XK} {Cp Cp' R : Cs} (ha : EvA B ca Γ C xs C1) (hp : C1.Perm (Cp ++ R)) (hp' : (Cp' ++ R).Perm C2) (hk : Cp'.map (·.1) = Cp.map (·.1)) (hS : S xs Cp c Cp') : EvN B (tCall (SpN S B.K) [] E ca) Γ C c C2 := fun τ σ ws H st Q q =>
  ha τ σ ws H st _ fun vs H1 s1 hl => by
    obtain ⟨F, s2, hv⟩ := EvA.out s1 hl
    show SpN S B.K (vs ++ []) H1 Q E
    rw [List.append_nil]
    have hfp := s2.hf.perm hp
    refine ⟨F, xs, Cp, c, Cp', hS, hk, ⟨hv, hfp.enter⟩, fun v H' ⟨p, F', e, hB, hP, h1⟩ => ?_⟩
    subst e
    have hpn : H1 p = none := hB
    have := hfp.leave (N := [(p, c)]) (C' := Cp') h1 hk (fun z hz => by
      obtain rfl := List.mem_singleton.mp hz
      exact hpn)
    exact q p H' (s2.hf.free hpn).2.2 (s2.hf.free hpn).2.1 ⟨F', (this.perm (hp'.cons _)), s2.slots.slots_mono h1.base, s2.temps.temps_mono h1.base⟩
/-- a call without cells -/
theorem ev_call {S : SpecV} {xs : List TV} {E : XK} (ha : EvA B ca Γ C xs C1) (hS : S xs [] x []) : Ev B (tCall (SpV S B.K) [] E ca) Γ C x C1 := ev_callA (Cp := []) (Cp' := []) (R := C1) ha (.refl _) (.refl _) rfl hS
theorem evn_call {S : SpecN} {xs : List TV} {E : XK} (ha : EvA B ca Γ C xs C1) (hS : S xs [] c []) : EvN B (tCall (SpN S B.K) [] E ca) Γ C c C1 := evn_callA (Cp := []) (Cp' := []) (R := C1) ha (.refl _) (.refl _) rfl hS
/-- one cell, at the k-th place -/
theorem perm_at {a : Addr} {c c' : Ct} : ∀ {C : Cs} {k : Nat}, C[k]? = some (a, c) → C.Perm ((a, c) :: C.eraseIdx k) ∧ ((a, c') :: C.eraseIdx k).Perm (C.set k (a, c'))
  | [], k, h => by simp at h
  | q :: C, 0, h => by
    simp only [List.getElem?_cons_zero, Option.some.injEq] at h
    subst h
    exact ⟨.refl _, .refl _⟩
  | q :: C, k + 1, h => by
    simp only [List.getElem?_cons_succ] at h
    obtain ⟨h1, h2⟩ := perm_at (C := C) h
    exact ⟨(h1.cons q).trans (.swap _ _ _), (List.Perm.swap _ _ _).trans (h2.cons q)⟩
theorem ev_call1 {S : SpecV} {xs : List TV} {E : XK} {a : Addr} {c' : Ct} {k : Nat} (ha : EvA B ca Γ C xs C1) (hk : C1[k]? = some (a, c)) (hS : S xs [(a, c)] x [(a, c')]) : Ev B (tCall (SpV S B.K) [] E ca) Γ C x (C1.set k (a, c')) :=
  ev_callA (Cp := [(a, c)]) (Cp' := [(a, c')]) (R := C1.eraseIdx k) ha (perm_at (c' := c') hk).1 (perm_at hk).2 rfl hS
theorem evn_call1 {S : SpecN} {xs : List TV} {E : XK} {a : Addr} {d c' : Ct} {k : Nat} (ha : EvA B ca Γ C xs C1) (hk : C1[k]? = some (a, d)) (hS : S xs [(a, d)] c [(a, c')]) : EvN B (tCall (SpN S B.K) [] E ca) Γ C c (C1.set k (a, c')) :=
  evn_callA (Cp := [(a, d)]) (Cp' := [(a, c')]) (R := C1.eraseIdx k) ha (perm_at (c' := c') hk).1 (perm_at hk).2 rfl hS
/-! ### bodies -/
theorem start_ok {K : Frag} {N : List Str} {vs : List V} {args : List TV} (h : All2 (TV.ok K F) vs args) : All2 (slOk K F) (L2.start N vs) (args.map some ++ List.replicate (N.length - args.length) none) := by
  unfold L2.start
  rw [h.length]
  refine All2.append ?_ ?_
  · induction h with
    | nil => exact .nil
    | cons h _ ih => exact .cons (fun t e => by cases e; exact ⟨_, rfl, h⟩) ih
  · generalize N.length - args.length = n
    induction n with
    | zero => exact .nil
    | succ n ih => exact .cons (fun t e => nomatch e) ih
/-- the ends of a def's body: it hands back r; where it runs through, None is r -/
abbrev endV (B : Bs) (r : TV) (C' : Cs) : EndT := ⟨fun _ _ _ H => RetV B r C' .non H, RetV B r C', fun _ _ _ _ => False, fun _ _ _ _ => False⟩
abbrev endN (B : Bs) (r : Ct) (C' : Cs) : EndT := ⟨fun _ _ _ _ => False, RetN B r C', fun _ _ _ _ => False, fun _ _ _ _ => False⟩
theorem body_v {S : SpecV} {K : Frag} {t : TS} {N : List Str} {vs : List V} {H : Hp} {Q : VK} {E : XK} (hS : SpV S K vs H Q E)
    (h : ∀ B args C r C', B.K = K → B.P = C.map (·.1) → S args C r C' → Ss B t (args.map some ++ List.replicate (N.length - args.length) none) C (endV B r C')) : t { nx := fun _ H' => Q .non H', rt := Q } (L2.start N vs) H := by
  obtain ⟨F, args, C, r, C', hs, hk, en, q⟩ := hS
  exact h (Bs.at K H F C) args C r C' rfl rfl hs [] (L2.start N vs) [] H ⟨F, en.hf, start_ok en.vals, .nil⟩ _ ⟨fun _ _ z => q _ _ z, fun _ _ z => q _ _ z, fun _ _ z => z.elim, fun _ _ z => z.elim⟩
theorem body_n {S : SpecN} {K : Frag} {t : TS} {N : List Str} {vs : List V} {H : Hp} {Q : VK} {E : XK} (hS : SpN S K vs H Q E)
    (h : ∀ B args C r C', B.K = K → B.P = C.map (·.1) → S args C r C' → Ss B t (args.map some ++ List.replicate (N.length - args.length) none) C (endN B r C')) : t { nx := fun _ H' => Q .non H', rt := Q } (L2.start N vs) H := by
  obtain ⟨F, args, C, r, C', hs, hk, en, q⟩ := hS
  exact h (Bs.at K H F C) args C r C' rfl rfl hs [] (L2.start N vs) [] H ⟨F, en.hf, start_ok en.vals, .nil⟩ _ ⟨fun _ _ z => z.elim, fun _ _ z => q _ _ z, fun _ _ z => z.elim, fun _ _ z => z.elim⟩
theorem len_v {S : SpecV} {K : Frag} {n : Nat} (h : ∀ args C r C', S args C r C' → args.length = n) : ∀ vs H Q E, SpV S K vs H Q E → vs.length = n := fun vs H Q E ⟨F, args, C, r, C', hs, _, en, _⟩ => en.vals.length.trans (h _ _ _ _ hs)
theorem len_n {S : SpecN} {K : Frag} {n : Nat} (h : ∀ args C r C', S args C r C' → args.length = n) : ∀ vs H Q E, SpN S K vs H Q E → vs.length = n := fun vs H Q E ⟨F, args, C, r, C', hs, _, en, _⟩ => en.vals.length.trans (h _ _ _ _ hs)
/-- return, with only cells of one's own left over -/
theorem ss_retV (h : Ev B te Γ C x C1) (s : C'.Sublist C1) : Ss B (tRet te) Γ C (endV B x C') := ss_ret h fun H v ⟨F, h1, h2⟩ => ⟨F, h1.sublist s, h2⟩
/-! ### cells by name -/
/-- a cell of one's own is handed on: it is given up -/
theorem evn_own {i k : Nat} {p : Addr} (hi : Γ[i]? = some (some (tv (Ptr.mk p)))) (hk : C[k]? = some (p, c)) (hB : B.H p = none) : EvN B (tVar i) Γ C c (C.eraseIdx k) := fun τ σ ws H ⟨F, st⟩ Q q => by
  obtain ⟨s, h1, h2⟩ := st.slots.get hi
  obtain ⟨v, rfl, h4⟩ := h2 _ rfl
  obtain rfl : v = .ref p := h4
  have hP : p ∉ B.P := fun z => st.hf.pb p z hB
  exact ⟨_, h1, q p H hB hP ⟨F, st.hf.perm (perm_at (c' := c) hk).1, st.slots, st.temps⟩⟩
end
end T
set_option Elab.async false
set_option linter.all false
set_option maxRecDepth 100000
set_option maxHeartbeats 2000000
set_option autoImplicit false
namespace T
open PySem PySem.Spec PyProof.Rows L2
open PySem.W (Frag)
/-! ### flat values -/
class Sc (α : Type) extends Rp α where
  toV : α → V
  val : ∀ {K F v x}, Rp.rp K F v x → v = toV x
  of : ∀ K F x, Rp.rp K F (toV x) x
  sc : ∀ x y, scal (toV x) (toV y) = true
  fl : ∀ x, flatV (toV x) = true
  inj : ∀ {x y}, toV x = toV y → x = y
  eqv : ∀ x y, eqV (toV x) (toV y) = decide (toV x = toV y)
instance : Sc Int where
  toV := V.int
  val := fun h => h
  of := fun _ _ _ => rfl
  sc := fun _ _ => rfl
  fl := fun _ => rfl
  inj := fun h => V.int.inj h
  eqv := fun x y => by rw [dec_int]; rfl
instance : Sc Bool where
  toV := V.bl
  val := fun h => h
  of := fun _ _ _ => rfl
  sc := fun _ _ => rfl
  fl := fun _ => rfl
  inj := fun h => V.bl.inj h
  eqv := fun x y => by rw [dec_bl]; rfl
instance : Sc Str where
  toV := V.str
  val := fun h => h
  of := fun _ _ _ => rfl
  sc := fun _ _ => rfl
  fl := fun _ => rfl
  inj := fun h => V.str.inj h
  eqv := fun x y => by rw [dec_str]; rfl
theorem Sc.dec {α : Type} [Sc α] [DecidableEq α] (x y : α) : decide (Sc.toV x = Sc.toV y) = decide (x = y) := by
  by_cases h : x = y
  · subst h; simp
  · have : ¬ Sc.toV x = Sc.toV y := fun e => h (Sc.inj e)
    simp [h, this]
section
variable {B : Bs} {F F' : Hp} {Γ Γ' Γ2 : List Sl} {C C' C1 C2 C3 R : Cs} {τ : List TV} {σ : St} {ws : List V} {H H' : Hp} {x y z : TV} {c : Ct}
variable {ta tc te : TE} {ca : TA} {D : EndT} {ts tu tw tb : TS} {wi : TI} {g : TG}
/-! ### ints -/
theorem os_I0 {f : Int → Int → V} {i j : Int} {z : TV} (h : ∀ K F, z.ok K F (f i j)) : OpS B C (rI0 f) (tv i) (tv j) z := fun F H v w _ hv hw Q q => ⟨i, j, hv, hw, q _ (h _ _)⟩
theorem os_I {P : Int → Int → Prop} {f : Int → Int → V} {i j : Int} {z : TV} (hc : P i j) (h : ∀ K F, z.ok K F (f i j)) : OpS B C (rI P f) (tv i) (tv j) z := fun F H v w _ hv hw Q q => ⟨i, j, hv, hw, hc, q _ (h _ _)⟩
theorem os_add {i j : Int} : OpS B C (rI0 fun i j => .int (i + j)) (tv i) (tv j) (tv (i + j)) := os_I0 fun _ _ => rfl
theorem os_sub {i j : Int} : OpS B C (rI0 fun i j => .int (i - j)) (tv i) (tv j) (tv (i - j)) := os_I0 fun _ _ => rfl
theorem os_lt {i j : Int} : OpS B C (rI0 fun i j => .bl (decide (i < j))) (tv i) (tv j) (tv (decide (i < j))) := os_I0 fun _ _ => rfl
theorem os_gt {i j : Int} : OpS B C (rI0 fun i j => .bl (decide (j < i))) (tv i) (tv j) (tv (decide (j < i))) := os_I0 fun _ _ => rfl
theorem os_ge {i j : Int} : OpS B C (rI0 fun i j => .bl (decide (j ≤ i))) (tv i) (tv j) (tv (decide (j ≤ i))) := os_I0 fun _ _ => rfl
theorem os_mul {i j : Int} (h : CMul i j) : OpS B C (rI CMul fun i j => .int (i * j)) (tv i) (tv j) (tv (i * j)) := os_I h fun _ _ => rfl
theorem os_mod {i j : Int} (h : 0 < j) : OpS B C (rI (fun _ j => 0 < j) fun i j => .int (i % j)) (tv i) (tv j) (tv (i % j)) := os_I h fun _ _ => rfl
theorem os_eq {α : Type} [Sc α] [DecidableEq α] {i j : α} : OpS B C rEq (tv i) (tv j) (tv (decide (i = j))) := fun F H v w _ hv hw Q q => by
  obtain rfl := Sc.val hv
  obtain rfl := Sc.val hw
  exact ⟨Sc.sc i j, q _ (by rw [Sc.dec]; rfl)⟩
theorem os_ne {α : Type} [Sc α] [DecidableEq α] {i j : α} : OpS B C rNe (tv i) (tv j) (tv (!decide (i = j))) := fun F H v w _ hv hw Q q => by
  obtain rfl := Sc.val hv
  obtain rfl := Sc.val hw
  exact ⟨Sc.sc i j, q _ (by rw [Sc.dec]; rfl)⟩
/-! ### lists and tuples that are read -/
/-- t is a list of the things xs, it stands or is a cell -/
def Ls (B : Bs) (C : Cs) (t : TV) {α : Type} [Rp α] (xs : List α) : Prop := ∀ F H v, HF B F C H → t.ok B.K F v → ∃ a vs, v = .ref a ∧ Rd H a (.lst vs) ∧ All2 (Rp.rp B.K F) vs xs
variable {α β : Type} [Rp α] [Rp β] {xs ys : List α}
theorem ls_val : Ls B C (tv xs) xs := fun F H v hf ⟨a, vs, e, h, r⟩ => ⟨a, vs, e, hf.sub.rd (.inl h), r⟩
theorem ls_cell {p : Addr} (hk : (p, Ct.lst xs) ∈ C) : Ls B C (tv (Ptr.mk p)) xs := fun F H v hf hv => by
  obtain ⟨_, ⟨o, h2, vs, rfl, h3⟩, _⟩ := hf.cells _ hk
  exact ⟨p, vs, hv, .inl h2, h3⟩
def rLen (K : Frag) : List V → Hp → VK → Prop := fun xs H Q => ∃ p ys, xs = [.ref p] ∧ (SqL K H p ys ∨ SqT K H p ys) ∧ Q (.int ys.length) H
theorem cs_len (h : Ls B C x xs) : CbS B C (rLen B.K) [x] (tv (xs.length : Int)) := fun F H vs hf hv Q q => by
  cases hv with
  | cons h1 h2 =>
    cases h2
    obtain ⟨a, us, rfl, hs, r⟩ := h F H _ hf h1
    exact ⟨a, us, rfl, .inl (.inl hs), q _ (by rw [r.length]; rfl)⟩
theorem All2.atI {R : V → α → Prop} {vs : List V} {n : Int} {a : α} (r : All2 R vs xs) (h : L2.atI xs n = some a) : ∃ v, L2.atI vs n = some v ∧ R v a := by
  unfold L2.atI at h ⊢
  rw [r.length]
  cases e : ixN xs.length n with
  | none => rw [e] at h; cases h
  | some j =>
    rw [e] at h
    exact r.get h
theorem os_ix {n : Int} {a : α} (h : Ls B C x xs) (ha : L2.atI xs n = some a) : OpS B C (rIxL B.K) x (tv n) (tv a) := fun F H v w hf hv hw Q q => by
  obtain ⟨p, us, rfl, hs, r⟩ := h F H _ hf hv
  obtain ⟨u, hu, ru⟩ := r.atI ha
  exact ⟨p, us, n, u, rfl, hw, .inl hs, hu, q u ru⟩
theorem All2.map_toV {α : Type} [Sc α] {K : Frag} {F : Hp} : ∀ {vs : List V} {xs : List α}, All2 (Rp.rp K F) vs xs → vs = xs.map Sc.toV
  | _, _, .nil => rfl
  | _, _, .cons h t => by rw [Sc.val h, All2.map_toV t]; rfl
theorem inV_mem {α : Type} [Sc α] [DecidableEq α] (x : α) : ∀ xs : List α, inV (Sc.toV x) (xs.map Sc.toV) = decide (x ∈ xs)
  | [] => by simp [inV]
  | y :: xs => by
    have ih := inV_mem x xs
    unfold inV at ih ⊢
    rw [List.map_cons, List.any_cons, ih, Sc.eqv, Sc.dec]
    by_cases h : y = x
    · subst h; simp
    · have : ¬ x = y := fun e => h e.symm
      simp [h, this]
theorem flat_all {α : Type} [Sc α] (xs : List α) : (xs.map Sc.toV).all flatV = true := by
  rw [List.all_map, List.all_eq_true]
  exact fun x _ => Sc.fl x
theorem os_in {α : Type} [Sc α] [DecidableEq α] {a : α} {xs : List α} (h : Ls B C y xs) : OpS B C (rIn B.K false) (tv a) y (tv (decide (a ∈ xs))) := fun F H v w hf hv hw Q q => by
  obtain ⟨p, us, rfl, hs, r⟩ := h F H _ hf hw
  obtain rfl := Sc.val hv
  obtain rfl := All2.map_toV r
  exact ⟨p, _, rfl, .inl (.inl hs), Sc.fl a, flat_all xs, q _ (by rw [inV_mem]; rfl)⟩
theorem cs_all {ns : List Bool} (h : Ls B C x ns) : CbS B C (rAll B.K) [x] (tv (ns.all id)) := fun F H vs hf hv Q q => by
  cases hv with
  | cons h1 h2 =>
    cases h2
    obtain ⟨a, us, rfl, hs, r⟩ := h F H _ hf h1
    obtain rfl := All2.map_toV r
    exact ⟨a, ns, rfl, .inl hs, q _ rfl⟩
/-- tuple(a list) -/
def rTupOf (K : Frag) : List V → Hp → VK → Prop := fun xs H Q => ∃ p ys, xs = [.ref p] ∧ ((SqL K H p ys ∧ ∀ l, H l = none → Q (.ref l) (upd H l (.tup ys))) ∨ (SqT K H p ys ∧ Q (.ref p) H))
theorem ev_tupleOf {t : TV} (ha : EvA B ca Γ C [t] C1) (h : Ls B C1 t xs) : Ev B (tCB (rTupOf B.K) ca) Γ C (tv (Tp.mk xs)) C1 := fun τ σ ws H st Q q =>
  ha τ σ ws H st _ fun vs H1 s1 hl => by
    obtain ⟨F, s2, hv⟩ := EvA.out s1 hl
    cases hv with
    | cons h1 h2 =>
      cases h2
      obtain ⟨a, us, rfl, hs, r⟩ := h F H1 _ s2.hf h1
      refine ⟨a, us, rfl, .inl ⟨.inl hs, fun p hp => ?_⟩⟩
      obtain ⟨hf, sF, sH⟩ := s2.hf.laid (o := .tup us) hp
      exact q _ _ (ST.push (s2.to sF hf) ⟨p, us, rfl, upd_same, r.mono fun _ _ z => Rp.mono sF z⟩)
/-- slices of lists -/
def cutL {α : Type} (xs : List α) (lo hi : Option Int) : List α := (xs.drop (HT.sIx xs.length 0 lo)).take (HT.sIx xs.length xs.length hi - HT.sIx xs.length 0 lo)
theorem All2.drop {α β : Type _} {R : α → β → Prop} : ∀ {as : List α} {bs : List β} (n : Nat), All2 R as bs → All2 R (as.drop n) (bs.drop n)
  | _, _, 0, h => h
  | _, _, _ + 1, .nil => .nil
  | _, _, n + 1, .cons _ t => All2.drop n t
theorem All2.take {α β : Type _} {R : α → β → Prop} : ∀ {as : List α} {bs : List β} (n : Nat), All2 R as bs → All2 R (as.take n) (bs.take n)
  | _, _, 0, h => .nil
  | _, _, _ + 1, .nil => .nil
  | _, _, n + 1, .cons h t => .cons h (All2.take n t)
def EvO (B : Bs) (t : TO) (Γ : List Sl) (C : Cs) (o : Option Int) (C' : Cs) : Prop :=
  ∀ τ σ ws H, ST B Γ C τ σ ws H → ∀ Q : Option Int → Hp → Prop, (∀ H', ST B Γ C' τ σ ws H' → Q o H') → t σ H Q
theorem eo_none : EvO B tNoPart Γ C none C := fun τ σ ws H st Q q => q H st
theorem eo_some {n : Int} (h : Ev B te Γ C (tv n) C1) : EvO B (tPart te) Γ C (some n) C1 := fun τ σ ws H st Q q => h τ σ ws H st _ fun v H1 s1 => by
  obtain ⟨F, s2, hv⟩ := s1.pop
  exact ⟨n, hv, q H1 ⟨F, s2⟩⟩
/-- list + list -/
def rCatL : R2 := fun x y H Q => ∃ l b xs zs, x = .ref l ∧ y = .ref b ∧ Rd H l (.lst xs) ∧ Rd H b (.lst zs) ∧ xs.length + zs.length ≤ sizeLine ∧ ∀ p, H p = none → Q (.ref p) (upd H p (.lst (xs ++ zs)))
theorem on_cat (h1 : Ls B C x xs) (h2 : Ls B C y ys) (hz : xs.length + ys.length ≤ sizeLine) : OpN B C rCatL x y (.lst (xs ++ ys)) := fun F H v w hf hv hw Q q => by
  obtain ⟨a, us, rfl, hs, r⟩ := h1 F H _ hf hv
  obtain ⟨b, ts, rfl, hs2, r2⟩ := h2 F H _ hf hw
  exact ⟨a, b, us, ts, rfl, rfl, hs, hs2, by rw [r.length, r2.length]; exact hz, fun p hp => q p _ hp ⟨_, rfl, r.append r2⟩⟩
/-! cells that are lists -/
theorem ev_append {p : Addr} {k : Nat} {a : α} (ho : Ev B ta Γ C (tv (Ptr.mk p)) C1) (ha : EvA B ca Γ C1 [tv a] C2) (hk1 : C1[k]? = some (p, .lst ys)) (hk : C2[k]? = some (p, .lst xs)) (hz : xs.length < sizeLine) :
    Ev B (tBM B.K "list" rAppend ta ca) Γ C (tv ()) (C2.set k (p, .lst (xs ++ [a]))) := fun τ σ ws H st Q q =>
  ho τ σ ws H st _ fun v H1 s1 => by
    obtain ⟨F, s2, hv⟩ := s1.pop
    obtain rfl : v = .ref p := hv
    obtain ⟨_, ⟨o, h2, vs, rfl, h3⟩, _⟩ := s2.hf.cells _ (List.mem_of_getElem? hk1)
    refine ⟨.inl ⟨rfl, vs, .inl (.inl h2)⟩, ha τ σ ws H1 ⟨F, s2⟩ _ fun us H2 s3 hl => ?_⟩
    obtain ⟨F3, s4, hv4⟩ := EvA.out s3 hl
    cases hv4 with
    | cons g1 g2 =>
      cases g2
      obtain ⟨_, ⟨o, h5, vs5, rfl, h6⟩, _⟩ := s4.hf.cells _ (List.mem_of_getElem? hk)
      have h6' : All2 (Rp.rp B.K F3) vs5 xs := h6
      exact ⟨p, vs5, _, rfl, rfl, h5, by rw [h6'.length]; exact hz, q _ _ (ST.push (x := tv ()) ⟨s4.hf.write (c' := .lst (xs ++ [a])) hk ⟨_, rfl, h6'.append (.cons g1 .nil)⟩, s4.slots, s4.temps⟩ rfl)⟩
end
end T
set_option Elab.async false
set_option linter.all false
set_option maxRecDepth 100000
set_option maxHeartbeats 2000000
set_option autoImplicit false
namespace T
open PySem PySem.Spec PyProof.Rows L2
open PySem.W (Frag alike alikeAll dataLe dataLt AllAlike Sortable EachIs)
/-! ### rules of HandS's kind that are wider -/
section
variable {X : Cx} {pins : List (Addr × Obj)} {σ : St} {H : Hp} {s : Shared}
theorem rd_lst (I : Inv X pins σ H s) {a : Addr} {xs : List V} (h : Rd H a (.lst xs)) : xs.length ≤ sizeLine ∧ ∃ (its : List Value) (n : Nat), Vals xs its ∧ xs.length = its.length ∧ s.heap.get? a = some { cls := .type "list", data := .seq its.toArray n } := by
  obtain ⟨z, its, n, r, e⟩ := h.ok I.hok
  exact ⟨z, its, n, r, r.length, e⟩
theorem op_catL : OpR X (binaryOp .Add) rCatL := by
  intro pins s σ H x y v u Q I rx ry h
  obtain ⟨l, b, xs, zs, rfl, rfl, hH, hB, hz, q⟩ := h
  cases rx
  cases ry
  obtain ⟨z, its, n, r, hl, e⟩ := rd_lst I hH
  obtain ⟨z2, its2, n2, r2, hl2, e2⟩ := rd_lst I hB
  refine PySem.P.add_list e e2 ?_ (by rw [List.size_toArray, List.size_toArray]; omega)
  have ea : its.toArray ++ its2.toArray = (its ++ its2).toArray := by simp
  rw [ea]
  exact ⟨.ref _, _, I.lnew (t' := s.toks) (r.append r2) (by rw [List.length_append]; omega), rfl, q _ I.fresh⟩
end
/-! ### data -/
class Dat (α : Type) extends Rp α where
  enc : α → PyData
  dp : ∀ {K F v x}, Rp.rp K F v x → Dp K F v (enc x)
  dep : Nat
  hdep : ∀ x, (enc x).depth ≤ dep
  al : ∀ x y, alike (enc x) (enc y) = true
instance : Dat Int where
  enc := .int
  dp := fun h => by cases h; exact .int _
  dep := 0
  hdep := fun _ => by simp [PyData.depth]
  al := fun _ _ => by simp [alike]
instance : Dat Bool where
  enc := .bool
  dp := fun h => by cases h; exact .bl _
  dep := 0
  hdep := fun _ => by simp [PyData.depth]
  al := fun _ _ => by simp [alike]
instance : Dat Str where
  enc := .str
  dp := fun h => by cases h; exact .str _
  dep := 0
  hdep := fun _ => by simp [PyData.depth]
  al := fun _ _ => by simp [alike]
theorem dpAll_of {α : Type} [Dat α] {K : Frag} {F : Hp} : ∀ {vs : List V} {xs : List α}, All2 (Rp.rp K F) vs xs → DpAll K F vs (xs.map Dat.enc)
  | _, _, .nil => .nil
  | _, _, .cons h t => .cons (Dat.dp h) (dpAll_of t)
theorem depAll_of {α : Type} [Dat α] : ∀ xs : List α, PyData.depthAll (xs.map Dat.enc) ≤ Dat.dep α
  | [] => by simp [PyData.depthAll]
  | x :: xs => by
    rw [List.map_cons, PyData.depthAll]
    exact Nat.max_le.mpr ⟨Dat.hdep x, depAll_of xs⟩
theorem alAll_of {α : Type} [Dat α] : ∀ xs ys : List α, alikeAll (xs.map Dat.enc) (ys.map Dat.enc) = true
  | [], _ => by simp [alikeAll]
  | _ :: _, [] => by simp [alikeAll]
  | x :: xs, y :: ys => by
    rw [List.map_cons, List.map_cons, alikeAll, Dat.al, alAll_of xs ys]
    rfl
instance instDatList {α : Type} [Dat α] : Dat (List α) where
  enc := fun xs => .list (xs.map Dat.enc)
  dp := fun ⟨a, vs, e, h, r⟩ => by subst e; exact .lst (.inl (.inl h)) (dpAll_of r)
  dep := Dat.dep α + 1
  hdep := fun xs => by rw [PyData.depth]; have := depAll_of xs; omega
  al := fun xs ys => by rw [alike]; exact alAll_of xs ys
instance instDatTp {α : Type} [Dat α] : Dat (Tp α) where
  enc := fun xs => .tuple (xs.l.map Dat.enc)
  dp := fun ⟨a, vs, e, h, r⟩ => by subst e; exact .tup (.inl (.inl h)) (dpAll_of r)
  dep := Dat.dep α + 1
  hdep := fun xs => by rw [PyData.depth]; have := depAll_of xs.l; omega
  al := fun xs ys => by rw [alike]; exact alAll_of xs.l ys.l
instance instDatProd {α β : Type} [Dat α] [Dat β] : Dat (α × β) where
  enc := fun x => .tuple [Dat.enc x.1, Dat.enc x.2]
  dp := fun ⟨a, v1, v2, e, h, r1, r2⟩ => by subst e; exact .tup (.inl (.inl h)) (.cons (Dat.dp r1) (.cons (Dat.dp r2) .nil))
  dep := max (Dat.dep α) (Dat.dep β) + 1
  hdep := fun x => by
    rw [PyData.depth, PyData.depthAll, PyData.depthAll, PyData.depthAll]
    have := Dat.hdep x.1
    have := Dat.hdep x.2
    omega
  al := fun x y => by rw [alike, alikeAll, alikeAll, alikeAll, Dat.al, Dat.al]; rfl
/-- ones that can be sorted -/
class Srt (α : Type) extends Dat α where
  srt : ∀ x, enc x ≠ .none ∧ ∀ xs, enc x ≠ .tuple xs
instance : Srt Int := ⟨fun x => ⟨fun h => (by have h' : PyData.int x = .none := h; cases h'), fun xs h => (by have h' : PyData.int x = .tuple xs := h; cases h')⟩⟩
instance : Srt Str := ⟨fun x => ⟨fun h => (by have h' : PyData.str x = .none := h; cases h'), fun xs h => (by have h' : PyData.str x = .tuple xs := h; cases h')⟩⟩
instance {α : Type} [Dat α] : Srt (List α) := ⟨fun x => ⟨fun h => (by have h' : PyData.list (x.map Dat.enc) = .none := h; cases h'), fun xs h => (by have h' : PyData.list (x.map Dat.enc) = .tuple xs := h; cases h')⟩⟩
section
variable {B : Bs} {F F' : Hp} {Γ Γ' Γ2 : List Sl} {C C' C1 C2 C3 R : Cs} {τ : List TV} {σ : St} {ws : List V} {H H' : Hp} {x y z : TV} {c : Ct}
variable {ta tc te : TE} {ca : TA} {D : EndT} {ts tu tw tb : TS} {wi : TI} {g : TG}
mutual
theorem Sub.dp {K : Frag} {F H : Hp} (s : Sub F H) : ∀ (d : PyData) (v : V), Dp K F v d → Dp K H v d
  | .none, _, h => by cases h; exact .non
  | .bool b, _, h => by cases h; exact .bl b
  | .int b, _, h => by cases h; exact .int b
  | .str b, _, h => by cases h; exact .str b
  | .list ds, _, h => by cases h with
    | lst h1 h2 => exact .lst (s.sqL h1) (Sub.dpAll s ds _ h2)
  | .tuple ds, _, h => by cases h with
    | tup h1 h2 => exact .tup (s.sqT h1) (Sub.dpAll s ds _ h2)
  | .dict _, _, h => by cases h
theorem Sub.dpAll {K : Frag} {F H : Hp} (s : Sub F H) : ∀ (ds : List PyData) (vs : List V), DpAll K F vs ds → DpAll K H vs ds
  | [], _, h => by cases h; exact .nil
  | d :: ds, _, h => by cases h with
    | cons g1 g2 => exact .cons (Sub.dp s d _ g1) (Sub.dpAll s ds _ g2)
end
end
end T
set_option Elab.async false
set_option linter.all false
set_option maxRecDepth 100000
set_option maxHeartbeats 2000000
set_option autoImplicit false
namespace T
open PySem PySem.Spec PyProof.Rows L2
open PySem.W (Frag)
/-! ### the mirrors' words -/
def lim {α : Type} (xs : List α) : Option (List α) := if xs.length ≤ sizeLine then some xs else none
def foldO {α σ : Type} (f : σ → α → Option σ) : σ → List α → Option σ
  | s, [] => some s
  | s, x :: xs => (f s x).bind fun s => foldO f s xs
def lcO {α β : Type} (t : α → Option Bool) (e : α → Option β) : List α → Option (List β)
  | [] => some []
  | x :: xs => (t x).bind fun b => if b = true then (e x).bind fun y => (lcO t e xs).bind fun ys => some (y :: ys) else lcO t e xs
theorem bind_some {α β : Type} {o : Option α} {f : α → Option β} {r : β} (h : o.bind f = some r) : ∃ x, o = some x ∧ f x = some r := Option.bind_eq_some_iff.mp h
theorem lim_some {α : Type} {xs ys : List α} (h : lim xs = some ys) : ys = xs ∧ xs.length ≤ sizeLine := by
  unfold lim at h
  split at h
  · cases h; exact ⟨rfl, by assumption⟩
  · cases h
theorem foldO_append {α σ : Type} {f : σ → α → Option σ} : ∀ {xs ys : List α} {s : σ}, foldO f s (xs ++ ys) = (foldO f s xs).bind fun s => foldO f s ys
  | [], ys, s => rfl
  | x :: xs, ys, s => by
    show (f s x).bind _ = ((f s x).bind _).bind _
    cases f s x with
    | none => rfl
    | some s' => exact foldO_append (xs := xs)
theorem foldO_at {α σ : Type} {f : σ → α → Option σ} {pre post : List α} {x : α} {s r : σ} (h : foldO f s (pre ++ x :: post) = some r) : ∃ s1 s2, foldO f s pre = some s1 ∧ f s1 x = some s2 ∧ foldO f s (pre ++ [x]) = some s2 := by
  rw [foldO_append] at h
  obtain ⟨s1, h1, h2⟩ := bind_some h
  obtain ⟨s2, h3, _⟩ := bind_some (show (f s1 x).bind _ = some r from h2)
  refine ⟨s1, s2, h1, h3, ?_⟩
  rw [foldO_append, h1]
  show (f s1 x).bind _ = _
  rw [h3]
  rfl
theorem lcO_append {α β : Type} {t : α → Option Bool} {e : α → Option β} : ∀ {xs ys : List α}, lcO t e (xs ++ ys) = (lcO t e xs).bind fun a => (lcO t e ys).bind fun b => some (a ++ b)
  | [], ys => by
    show lcO t e ys = (lcO t e ys).bind _
    cases lcO t e ys <;> rfl
  | x :: xs, ys => by
    show (t x).bind _ = ((t x).bind _).bind _
    cases t x with
    | none => rfl
    | some b => cases b with
      | false => exact lcO_append (xs := xs)
      | true =>
        show (e x).bind _ = ((e x).bind _).bind _
        cases e x with
        | none => rfl
        | some y =>
          show (lcO t e (xs ++ ys)).bind _ = ((lcO t e xs).bind _).bind _
          rw [lcO_append (xs := xs)]
          cases lcO t e xs with
          | none => rfl
          | some a => cases lcO t e ys <;> rfl
section
variable {B : Bs} {F F' : Hp} {Γ Γ' Γ2 : List Sl} {C C' C1 C2 C3 R : Cs} {τ : List TV} {σ : St} {ws : List V} {H H' : Hp} {x y z : TV} {c : Ct}
variable {ta tc te : TE} {ca : TA} {D : EndT} {ts tu tw tb : TS} {wi : TI} {g : TG} {tt : TT}
variable {α β : Type} [Rp α] [Rp β] {xs : List α} {js vs : List Nat}
/-- what a loop's turn is to reach -/
abbrev loopE (B : Bs) (D : EndT) (Γ : List Sl) (C : Cs) : EndT := ⟨fun τ ws σ H => ST B Γ C τ σ ws H, D.rt, fun _ _ _ _ => False, fun τ ws σ H => ST B Γ C τ σ ws H⟩
/-- a for that is not left -/
theorem ss_forO {S : Type} {f : S → α → Option S} {s0 s1 : S} (hf : foldO f s0 xs = some s1) (Γf : S → List Sl) (Cf : S → Cs) (hi : EvI B wi Γ C xs C1) (w0 : Wk Γ (Γf s0)) (c0 : C1 = Cf s0)
    (hs : ∀ s a s', a ∈ xs → f s a = some s' → ∃ Γ2, Tg B g js (tv a) (Γf s) Γ2 ∧ Ss B tb Γ2 (Cf s) (loopE B D (Γf s') (Cf s')))
    (hd : Ss B tu (Γf s1) (Cf s1) D) : Ss B (tSeq (tFor wi g tb) tu) Γ C D := by
  refine ss_for (js := js) (fun pre Γ' C' => (pre = [] ∧ Γ' = Γ ∧ C' = C1) ∨ ∃ s, foldO f s0 pre = some s ∧ Γ' = Γf s ∧ C' = Cf s) (fun _ _ => False) hi (.inl ⟨rfl, rfl, rfl⟩) ?_ ?_
  · intro pre a post Γ' C' e hI
    have hf' := hf
    rw [e] at hf'
    obtain ⟨s, s', h1, h2, h3⟩ := foldO_at hf'
    have hm : a ∈ xs := by rw [e]; simp
    obtain ⟨Γ2, tg, hb⟩ := hs s a s' hm h2
    rcases hI with ⟨rfl, rfl, rfl⟩ | ⟨q, hq, rfl, rfl⟩
    · cases h1
      refine ⟨Γ2, fun F C σ v H hf hsl hx Q q => tg F C σ v H hf (w0.slots hsl) hx Q q, ?_⟩
      rw [c0]
      exact fun τ σ ws H st E im => hb τ σ ws H st E ⟨fun σ H h => im.nx _ _ ⟨_, _, .inr ⟨s', h3, rfl, rfl⟩, h⟩, im.rt, fun _ _ z => z.elim, fun σ H h => im.ct _ _ ⟨_, _, .inr ⟨s', h3, rfl, rfl⟩, h⟩⟩
    · rw [hq] at h1
      cases h1
      exact ⟨Γ2, tg, fun τ σ ws H st E im => hb τ σ ws H st E ⟨fun σ H h => im.nx _ _ ⟨_, _, .inr ⟨s', h3, rfl, rfl⟩, h⟩, im.rt, fun _ _ z => z.elim, fun σ H h => im.ct _ _ ⟨_, _, .inr ⟨s', h3, rfl, rfl⟩, h⟩⟩⟩
  · rintro Γ' C' ((⟨rfl, rfl, rfl⟩ | ⟨s, hs1, rfl, rfl⟩) | z)
    · cases hf
      rw [c0]
      exact ss_weak w0 hd
    · rw [hf] at hs1
      cases hs1
      exact hd
    · exact z.elim
/-- a list comprehension whose element changes nothing -/
theorem evn_lcO {t : α → Option Bool} {e : α → Option β} {ys : List β} (hl : lcO t e xs = some ys) (hz : ys.length ≤ sizeLine) (hi : EvI B wi Γ C xs C1) (hj : ∀ j ∈ js, j ∈ vs)
    (hs : ∀ a b, a ∈ xs → t a = some b → ∃ Γ2, Tg B g js (tv a) (wipeG Γ vs) Γ2 ∧ (∀ C2, (∀ p ∈ C1, p ∈ C2) → EvT B tt Γ2 C2 b C2) ∧ (b = true → ∀ y, e a = some y → ∀ C2, (∀ p ∈ C1, p ∈ C2) → Ev B te Γ2 C2 (tv y) C2)) :
    EvN B (tLc wi g tt te vs) Γ C (.lst ys) C1 := by
  refine evn_lc (ys := ys) (C2 := C1) (fun pre ys' C' => lcO t e pre = some ys' ∧ C' = C1) hi hj ⟨rfl, rfl⟩ ?_ ?_
  · rintro pre a post ys' C' p hx ⟨h1, hC⟩
    subst hC
    have hm : a ∈ xs := by rw [hx]; simp
    rw [hx, lcO_append, h1] at hl
    obtain ⟨b2, h2, h3⟩ := bind_some (show (lcO t e (a :: post)).bind (fun b => some (ys' ++ b)) = some ys from hl)
    obtain ⟨b, h4, h5⟩ := bind_some (show (t a).bind _ = some b2 from h2)
    obtain ⟨Γ2, tg, ht, he⟩ := hs a b hm h4
    refine ⟨Γ2, b, tg, ht _ fun q hq => List.mem_cons_of_mem _ hq, fun hb => ?_, fun hb => ?_⟩
    · rw [if_pos hb] at h5
      obtain ⟨y, h6, h7⟩ := bind_some h5
      obtain ⟨r, h8, h9⟩ := bind_some h7
      cases h9
      cases h3
      refine ⟨y, C', he hb y h6 _ fun q hq => List.mem_cons_of_mem _ hq, ?_, ?_, rfl⟩
      · simp at hz
        omega
      · rw [lcO_append, h1]
        show ((t a).bind _).bind _ = _
        rw [h4]
        show ((if b = true then _ else _) : Option (List β)).bind _ = _
        rw [if_pos hb, h6]
        rfl
    · refine ⟨?_, rfl⟩
      rw [lcO_append, h1]
      show ((t a).bind _).bind _ = _
      rw [h4, hb]
      simp [lcO]
  · rintro ys' C' ⟨h1, h2⟩
    rw [hl] at h1
    cases h1
    exact ⟨rfl, h2⟩
theorem et_yes : EvT B tYes Γ C true C := fun τ σ ws H st Q q => q H st
end
end T
set_option Elab.async false
set_option linter.all false
set_option maxRecDepth 100000
set_option maxHeartbeats 2000000
set_option autoImplicit false
namespace T
open PySem PySem.Spec PyProof.Rows L2
open PySem.W (Frag)
/-! ### dicts in plain Lean -/
section
variable {κ α : Type} [DecidableEq κ]
def dput (kvs : List (κ × α)) (k : κ) (v : α) : List (κ × α) :=
  if (kvs.any fun kv => decide (kv.1 = k)) = true then kvs.map (fun kv => if kv.1 = k then (kv.1, v) else kv) else kvs ++ [(k, v)]
end
instance {α : Type} [DecidableEq α] : DecidableEq (Tp α) := fun a b => match a, b with
  | ⟨x⟩, ⟨y⟩ => if h : x = y then isTrue (by rw [h]) else isFalse fun e => h (Tp.mk.inj e)
section
variable {κ α : Type} [Ky κ] [DecidableEq κ] [Rp α] {K : Frag} {F : Hp}
theorem key_dec (a b : κ) : decide (Ky.key a = Ky.key b) = decide (a = b) := by
  by_cases h : a = b
  · subst h; simp
  · have : ¬ Ky.key a = Ky.key b := fun e => h (Ky.kinj e)
    simp [h, this]
theorem any_put {ps : List (Key × V)} {kvs : List (κ × α)} (h : All2 (KvOk K F) ps kvs) (k : κ) : (ps.any fun kv => decide (kv.1 = Ky.key k)) = kvs.any fun kv => decide (kv.1 = k) := by
  induction h with
  | nil => rfl
  | @cons p q ps kvs h1 _ ih => rw [List.any_cons, List.any_cons, ih, h1.1, key_dec]
theorem put_ok {ps : List (Key × V)} {kvs : List (κ × α)} (h : All2 (KvOk K F) ps kvs) {k : κ} {v : V} {x : α} (hv : Rp.rp K F v x) : All2 (KvOk K F) (putK ps (Ky.key k) v) (dput kvs k x) := by
  unfold putK dput
  rw [any_put h]
  split
  · rename_i hc
    clear hc
    induction h with
    | nil => exact .nil
    | @cons p q ps kvs h1 _ ih =>
      refine .cons ?_ ih
      by_cases e : q.1 = k
      · dsimp only
        rw [if_pos e, if_pos (by rw [h1.1, e])]
        exact ⟨h1.1, hv⟩
      · dsimp only
        rw [if_neg e, if_neg (fun z => e (Ky.kinj (h1.1.symm.trans z)))]
        exact h1
  · exact h.append (.cons ⟨rfl, hv⟩ .nil)
end
/-- keys as values -/
class Kv (κ : Type) extends Sc κ, Ky κ where
  kv : ∀ x : κ, Sc.toV x = kV (Ky.key x)
instance : Kv Int := ⟨fun _ => rfl⟩
instance : Kv Str := ⟨fun _ => rfl⟩
section
variable {B : Bs} {F F' : Hp} {Γ Γ' Γ2 : List Sl} {C C' C1 C2 C3 R : Cs} {τ : List TV} {σ : St} {ws : List V} {H H' : Hp} {x y z : TV} {c : Ct}
variable {ta tc te td ty tw' : TE} {ca : TA} {D : EndT} {ts tu tw tb : TS} {wi : TI} {g : TG} {tt : TT}
variable {κ α β : Type} [Kv κ] [DecidableEq κ] [Rp α] [Rp β]
variable {kvs : List (κ × α)} {kts : List (Tp κ × α)}
/-- len(d) -/
def rLenD : List V → Hp → VK → Prop := fun xs H Q => ∃ a, xs = [V.ref a] ∧ ((∃ kvs, Rd H a (.dK kvs) ∧ Q (.int kvs.length) H))
theorem cr_lenD {X : Cx} : CallR X (.builtin "len") rLenD := by
  intro pins s σ H xs us Q I r h
  obtain ⟨a, rfl, kvs, ha, q⟩ := h
  obtain ⟨u, rfl, ru⟩ := vals1 r
  cases ru
  exact d_len I ha fun t s' I' => ⟨.int kvs.length, H, I', ⟨t, rfl⟩, q⟩
/-! walks over dicts that stand -/
/-- a thing at a that stands, as it is -/
structure Pin where
  a : Addr
  o : HO
instance : Rp Pin := ⟨fun _ F v x => v = .ref x.a ∧ F x.a = some x.o, fun s h => ⟨h.1, s _ _ h.2⟩⟩
structure PinD (κ α : Type) where
  a : Addr
  o : Obj
  ps : List (Key × V)
  l : List (κ × α)
instance {κ α : Type} [Ky κ] [Rp α] : Rp (PinD κ α) := ⟨fun K F v x => v = .ref x.a ∧ F x.a = some (.frz x.o (.dK x.ps)) ∧ All2 (KvOk K F) x.ps x.l, fun s h => ⟨h.1, s _ _ h.2.1, h.2.2.mono fun _ _ q => q.mono s⟩⟩
/-- enumerate(xs) -/
structure PinL (α : Type) where
  a : Addr
  vs : List V
  l : List α
instance {α : Type} [Rp α] : Rp (PinL α) := ⟨fun K F v x => v = .ref x.a ∧ Rd F x.a (.lst x.vs) ∧ All2 (Rp.rp K F) x.vs x.l, fun s h => ⟨h.1, rd_mono s h.2.1, h.2.2.mono fun _ _ q => Rp.mono s q⟩⟩
def enumL {α : Type} : Nat → List α → List (Int × α)
  | _, [] => []
  | n, x :: xs => ((n : Int), x) :: enumL (n + 1) xs
theorem enumL_get {α : Type} : ∀ {xs : List α} {n i : Nat} {p : Int × α}, (enumL n xs)[i]? = some p → p.1 = ((n + i : Nat) : Int) ∧ xs[i]? = some p.2
  | [], _, _, _, h => by simp [enumL] at h
  | x :: xs, n, 0, p, h => by
    simp only [enumL, List.getElem?_cons_zero, Option.some.injEq] at h
    subst h
    exact ⟨rfl, rfl⟩
  | x :: xs, n, i + 1, p, h => by
    simp only [enumL, List.getElem?_cons_succ] at h
    obtain ⟨h1, h2⟩ := enumL_get h
    exact ⟨by rw [h1]; congr 1; omega, by simpa using h2⟩
theorem enumL_length {α : Type} : ∀ (n : Nat) (xs : List α), (enumL n xs).length = xs.length
  | _, [] => rfl
  | n, x :: xs => by simp [enumL, enumL_length (n + 1) xs]
theorem ei_enum {xs : List α} {t : TV} (h : EvA B ca Γ C [t] C1) (hl : ∀ F H v, HF B F C1 H → t.ok B.K F v → ∃ a vs, v = .ref a ∧ Rd F a (.lst vs) ∧ All2 (Rp.rp B.K F) vs xs) : EvI B (iEnum B.K ca) Γ C (enumL 0 xs) C1 := fun τ σ ws H st R q =>
  h τ σ ws H st _ fun vs H1 s1 hln => by
    obtain ⟨F0, s2, hv⟩ := EvA.out s1 hln
    cases hv with
    | cons h1 h2 =>
      cases h2
      obtain ⟨a, us, rfl, g1, g2⟩ := hl F0 H1 _ s2.hf h1
      refine ⟨a, us, rfl, .inl (s2.hf.sub.rd g1), q _ (tv (PinL.mk a us xs)) (.ref a) H1 (ST.push s2 ⟨rfl, g1, g2⟩) fun i F C H hf hk => ?_⟩
      obtain ⟨_, hk2, hr2⟩ := hk
      have hq : SqL B.K H a us := .inl (hf.sub.rd hk2)
      have hlen := g2.length
      refine ⟨fun hi => ⟨us, hq, by rw [enumL_length] at hi; omega⟩, fun p hp => ?_⟩
      obtain ⟨e1, e2⟩ := enumL_get hp
      obtain ⟨w, h3, h4⟩ := hr2.get e2
      have h3' : us[i]? = some w := h3
      refine ⟨⟨us, w, hq, h3'⟩, fun x H' hy => ?_⟩
      obtain ⟨T, y, rfl, hT, rfl, fy⟩ := hy
      have h5 := fy us hq
      rw [h3'] at h5
      cases h5
      obtain ⟨hf', sF, sH⟩ := hf.laid (o := .tup [.int (i : Nat), w]) hT
      exact ⟨_, sF, hf', T, _, w, rfl, upd_same, by show V.int _ = V.int _; rw [e1]; simp, Rp.mono sF h4⟩
theorem en_val {xs : List α} {F : Hp} {H : Hp} {v : V} (hf : HF B F C1 H) (h : (tv xs).ok B.K F v) : ∃ a vs, v = .ref a ∧ Rd F a (.lst vs) ∧ All2 (Rp.rp B.K F) vs xs := let ⟨a, vs, e, h, r⟩ := h; ⟨a, vs, e, .inl h, r⟩
/-- zip(xs, ys) -/
structure PinZ (α β : Type) where
  a : Addr
  b : Addr
  vs : List V
  ws : List V
  l : List α
  m : List β
instance {α β : Type} [Rp α] [Rp β] : Rp (PinZ α β) := ⟨fun K F v x => v = .ref x.a ∧ Rd F x.a (.lst x.vs) ∧ All2 (Rp.rp K F) x.vs x.l ∧ Rd F x.b (.lst x.ws) ∧ All2 (Rp.rp K F) x.ws x.m,
  fun s h => ⟨h.1, rd_mono s h.2.1, h.2.2.1.mono fun _ _ q => Rp.mono s q, rd_mono s h.2.2.2.1, h.2.2.2.2.mono fun _ _ q => Rp.mono s q⟩⟩
theorem ei_zip {xs : List α} {ys : List β} (h : EvA B ca Γ C [tv xs, tv ys] C1) : EvI B (iZip B.K ca) Γ C (xs.zip ys) C1 := fun τ σ ws H st R q =>
  h τ σ ws H st _ fun vs H1 s1 hln => by
    obtain ⟨F0, s2, hv⟩ := EvA.out s1 hln
    cases hv with
    | cons h1 h2 =>
      cases h2 with
      | cons h2 h3 =>
        cases h3
        obtain ⟨a, us, rfl, g1, g2⟩ := h1
        obtain ⟨b, ts, rfl, g3, g4⟩ := h2
        refine ⟨a, b, us, ts, rfl, .inl (s2.hf.sub.rd (.inl g1)), .inl (s2.hf.sub.rd (.inl g3)), q _ (tv (PinZ.mk a b us ts xs ys)) (.ref a) H1 (ST.push s2 ⟨rfl, .inl g1, g2, .inl g3, g4⟩) fun i F C H hf hk => ?_⟩
        obtain ⟨_, k1, k2, k3, k4⟩ := hk
        have hq : SqL B.K H a us := .inl (hf.sub.rd k1)
        have hq2 : SqL B.K H b ts := .inl (hf.sub.rd k3)
        have l1 : us.length = xs.length := g2.length
        have l2 : ts.length = ys.length := g4.length
        refine ⟨fun hi => ⟨us, ts, hq, hq2, by rw [List.length_zip] at hi; omega⟩, fun p hp => ?_⟩
        have hp' : xs[i]? = some p.1 ∧ ys[i]? = some p.2 := List.getElem?_zip_eq_some.mp hp
        obtain ⟨w, h3, h4⟩ := k2.get hp'.1
        obtain ⟨w2, h5, h6⟩ := k4.get hp'.2
        have h3' : us[i]? = some w := h3
        have h5' : ts[i]? = some w2 := h5
        refine ⟨⟨us, ts, w, w2, hq, hq2, h3', h5'⟩, fun x H' hy => ?_⟩
        obtain ⟨T, y, z, rfl, hT, rfl, fy, fz⟩ := hy
        have h7 := fy us hq
        have h8 := fz ts hq2
        rw [h3'] at h7
        rw [h5'] at h8
        cases h7
        cases h8
        obtain ⟨hf', sF, sH⟩ := hf.laid (o := .tup [w, w2]) hT
        exact ⟨_, sF, hf', T, w, w2, rfl, upd_same, Rp.mono sF h4, Rp.mono sF h6⟩
end
end T
set_option Elab.async false
set_option linter.all false
set_option maxRecDepth 100000
set_option maxHeartbeats 2000000
set_option autoImplicit false
namespace T
open PySem PySem.Spec PyProof.Rows L2
open PySem.W (Frag)
/-! ### small words for printed proofs -/
theorem if_t {α : Type} {b : Bool} {x y r : α} (h : (if b = true then x else y) = r) (hb : b = true) : x = r := by rw [if_pos hb] at h; exact h
theorem if_f {α : Type} {b : Bool} {x y r : α} (h : (if b = true then x else y) = r) (hb : b = false) : y = r := by rw [if_neg (by rw [hb]; exact Bool.false_ne_true)] at h; exact h
theorem some_eq {α : Type} {a b : α} (h : some a = some b) : a = b := Option.some.inj h
theorem szn {n : Nat} (h : n ≤ 1000) : n ≤ sizeLine := Nat.le_trans h (by decide)
/-- the range's ints, if they are small -/
def rngO (lo hi : Int) : Option (List Int) := if -(2 ^ 62) ≤ lo ∧ lo < 2 ^ 62 ∧ -(2 ^ 62) ≤ hi ∧ hi < 2 ^ 62 then some (rng lo hi) else none
theorem rngO_some {lo hi : Int} {xs : List Int} (h : rngO lo hi = some xs) : xs = rng lo hi ∧ -(2 ^ 62) ≤ lo ∧ lo < 2 ^ 62 ∧ -(2 ^ 62) ≤ hi ∧ hi < 2 ^ 62 := by
  unfold rngO at h
  split at h
  · cases h; exact ⟨rfl, by assumption⟩
  · cases h
/-- append, if it is not too long -/
def appO {α : Type} (xs : List α) (x : α) : Option (List α) := if xs.length < sizeLine then some (xs ++ [x]) else none
theorem appO_some {α : Type} {xs ys : List α} {x : α} (h : appO xs x = some ys) : ys = xs ++ [x] ∧ xs.length < sizeLine := by
  unfold appO at h
  split at h
  · cases h; exact ⟨rfl, by assumption⟩
  · cases h
def catO {α : Type} (xs ys : List α) : Option (List α) := if xs.length + ys.length ≤ sizeLine then some (xs ++ ys) else none
theorem catO_some {α : Type} {xs ys zs : List α} (h : catO xs ys = some zs) : zs = xs ++ ys ∧ xs.length + ys.length ≤ sizeLine := by
  unfold catO at h
  split at h
  · cases h; exact ⟨rfl, by assumption⟩
  · cases h
section
variable {B : Bs} {F F' : Hp} {Γ Γ' Γ2 : List Sl} {C C' C1 C2 C3 R : Cs} {τ : List TV} {σ : St} {ws : List V} {H H' : Hp} {x y z : TV} {c d : Ct}
variable {ta tb' tc te : TE} {ca : TA} {D : EndT} {ts tu tw tb : TS} {wi : TI} {g : TG} {t u : TT} {b b' : Bool}
variable {α β : Type} [Rp α] [Rp β]
theorem ev_eq {a a' : α} (h : Ev B te Γ C (tv a) C1) (e : a = a') : Ev B te Γ C (tv a') C1 := e ▸ h
theorem evn_eq {a a' : List α} (h : EvN B te Γ C (.lst a) C1) (e : a = a') : EvN B te Γ C (.lst a') C1 := e ▸ h
/-- a return within a block -/
theorem ss_retS (h : Ss B (tRet te) Γ C D) : Ss B (tSeq (tRet te) tu) Γ C D := fun τ σ ws H st E im => h τ σ ws H st E im
/-- fewer cells, fewer names -/
theorem ST.less (w : Wk Γ Γ') (s : C'.Sublist C) (h : ST B Γ C τ σ ws H) : ST B Γ' C' τ σ ws H := let ⟨F, q⟩ := h; ⟨F, q.hf.sublist s, w.slots q.slots, q.temps⟩
theorem ss_goal (w : Wk Γ Γ') (s : C'.Sublist C) : Ss B tNext Γ C (loopE B D Γ' C') := ss_next fun τ ws σ H st => st.less w s
theorem ev_pair {a : α} {a2 : β} (ha : EvA B ca Γ C [tv a, tv a2] C1) : Ev B (tTup ca) Γ C (tv (a, a2)) C1 := ev_tup ha (by show 2 ≤ sizeLine; decide) fun K F vs p h hv => by
  cases hv with
  | cons h1 h2 => cases h2 with
    | cons h2 h3 =>
      cases h3
      exact ⟨p, _, _, rfl, h, h1, h2⟩
theorem ev_tps {xs : List α} (ha : EvA B ca Γ C (xs.map fun x => tv x) C1) (hz : xs.length ≤ sizeLine) : Ev B (tTup ca) Γ C (tv (Tp.mk xs)) C1 := ev_tup ha (by rw [List.length_map]; exact hz) fun K F vs p h hv => ⟨p, vs, rfl, h, vals_tv hv⟩
end
/-- one mirrored test ahead of another -/
def andO (b : Bool) (o : Option Bool) : Option Bool := if b = true then o else some false
def orO (b : Bool) (o : Option Bool) : Option Bool := if b = true then some true else o
section
variable {B : Bs} {F F' : Hp} {Γ Γ' Γ2 : List Sl} {C C' C1 C2 C3 R : Cs} {t u : TT} {b b' : Bool} {ta tb' : TE}
theorem et_orO {o : Option Bool} (h : orO b o = some b') (h1 : EvT B t Γ C b C1) (h2 : b = false → o = some b' → EvT B u Γ C1 b' C1) : EvT B (tOr t u) Γ C b' C1 := by
  cases b with
  | false => exact et_or (b := false) h1 fun _ => h2 rfl h
  | true =>
    cases h
    exact et_or (b := true) (b' := true) h1 fun z => by cases z
theorem ev_andO {o : Option Bool} (h : andO b o = some b') (h1 : Ev B ta Γ C (tv b) C1) (h2 : b = true → o = some b' → Ev B tb' Γ C1 (tv b') C1) : Ev B (tAndV ta tb') Γ C (tv b') C1 := by
  cases b with
  | true => exact ev_andV (b := true) h1 fun _ => h2 rfl h
  | false =>
    cases h
    exact ev_andV (b := false) (b' := false) h1 fun z => by cases z
end
end T
namespace T
open PySem PySem.Spec PyProof.Rows L2
open PySem.W (Frag)
def lcL {α β : Type} (t : α → Option Bool) (e : α → Option β) (xs : List α) : Option (List β) := (lcO t e xs).bind lim
theorem lcL_some {α β : Type} {t : α → Option Bool} {e : α → Option β} {xs : List α} {ys : List β} (h : lcL t e xs = some ys) : lcO t e xs = some ys ∧ ys.length ≤ sizeLine := by
  obtain ⟨zs, h1, h2⟩ := bind_some h
  obtain ⟨e, h3⟩ := lim_some h2
  subst e
  exact ⟨h1, h3⟩
section
variable {B : Bs} {F F' : Hp} {Γ Γ' Γ2 : List Sl} {C C' C1 C2 C3 R : Cs} {τ : List TV} {σ : St} {ws : List V} {H H' : Hp} {x y z : TV} {c d : Ct}
variable {te tk' tv' : TE} {wi : TI} {g : TG} {tt : TT}
variable {α β κ : Type} [Rp α] [Rp β] [Kv κ] [DecidableEq κ] {js vs : List Nat} {xs : List α}
theorem evn_lcL {t : α → Option Bool} {e : α → Option β} {ys : List β} (hl : lcL t e xs = some ys) (hi : EvI B wi Γ C xs C1) (hj : ∀ j ∈ js, j ∈ vs)
    (hs : ∀ a b, a ∈ xs → t a = some b → ∃ Γ2, Tg B g js (tv a) (wipeG Γ vs) Γ2 ∧ (∀ C2, (∀ p ∈ C1, p ∈ C2) → EvT B tt Γ2 C2 b C2) ∧ (b = true → ∀ y, e a = some y → ∀ C2, (∀ p ∈ C1, p ∈ C2) → Ev B te Γ2 C2 (tv y) C2)) :
    EvN B (tLc wi g tt te vs) Γ C (.lst ys) C1 := evn_lcO (lcL_some hl).1 (lcL_some hl).2 hi hj hs
end
end T
set_option Elab.async false
set_option linter.all false
set_option maxRecDepth 100000
set_option maxHeartbeats 2000000
set_option autoImplicit false
namespace T
open PySem PySem.Spec PyProof.Rows L2
open PySem.W (Frag Sortable AllAlike EachIs dataLe)
/-! ### partial words, and what they give -/
instance (i j : Int) : Decidable (CMul i j) := inferInstanceAs (Decidable (_ ∨ _))
def mulO (i j : Int) : Option Int := if CMul i j then some (i * j) else none
theorem mulO_some {i j r : Int} (h : mulO i j = some r) : r = i * j ∧ CMul i j := by
  unfold mulO at h
  split at h
  · cases h; exact ⟨rfl, by assumption⟩
  · cases h
def modO (i j : Int) : Option Int := if 0 < j then some (i % j) else none
theorem modO_some {i j r : Int} (h : modO i j = some r) : r = i % j ∧ 0 < j := by
  unfold modO at h
  split at h
  · cases h; exact ⟨rfl, by assumption⟩
  · cases h
/-- ones whose lists can be sorted -/
class SrtA (α : Type) extends Dat α where
  srtA : ∀ xs : List α, Sortable (xs.map enc)
instance {α : Type} [Srt α] : SrtA α := ⟨fun xs => Sortable.others Srt.srt⟩
instance {α β : Type} [Dat α] [Dat β] : SrtA (α × β) := ⟨fun xs => Sortable.tuples fun b => ⟨_, _, rfl⟩⟩
section
variable {B : Bs} {F F' : Hp} {Γ Γ' Γ2 : List Sl} {C C' C1 C2 C3 R : Cs} {τ : List TV} {σ : St} {ws : List V} {H H' : Hp} {x y z : TV} {c d : Ct}
variable {ta tb' te td ty : TE} {ca : TA} {D : EndT} {ts tu tw tb : TS} {wi : TI} {g : TG} {t u : TT} {b b' : Bool}
variable {α β : Type} [Rp α] [Rp β]
theorem ev_appO {p : Addr} {k : Nat} {a : α} {xs ys zs : List α} (ho : Ev B ta Γ C (tv (Ptr.mk p)) C1) (ha : EvA B ca Γ C1 [tv a] C2) (hk1 : C1[k]? = some (p, .lst ys)) (hk : C2[k]? = some (p, .lst xs)) (h : appO xs a = some zs) :
    Ev B (tBM B.K "list" rAppend ta ca) Γ C (tv ()) (C2.set k (p, .lst zs)) := by
  obtain ⟨e, hz⟩ := appO_some h
  subst e
  exact ev_append ho ha hk1 hk hz
theorem ei_rngO1 {n : Int} {xs : List Int} (h : EvA B ca Γ C [tv n] C1) (hn : rngO 0 n = some xs) : EvI B (iRng1 ca) Γ C xs C1 := by
  obtain ⟨e, _, _, h1, h2⟩ := rngO_some hn
  subst e
  exact ei_rng1 h ⟨h2, h1⟩
end
end T
set_option Elab.async false
set_option linter.all false
set_option maxRecDepth 100000
set_option maxHeartbeats 2000000
set_option autoImplicit false
/-! an own error over a class of the program over ValueError, whose __init__ says super().__init__(text) and keeps what it is given -/
namespace FX
open PySem PySem.W PySem.Calls PyProof.Rows PySem.HandSPX
def xA (fld : Str) (p1 p2 : Pos) : Arguments := { posonlyargs := [], args := [{ arg := "self", annotation := none, pos := p1 }, { arg := fld, annotation := none, pos := p2 }], vararg := none, kwonlyargs := [], kw_defaults := [], kwarg := none, defaults := [] }
def xB (fld tx : Str) (a1 a2 a3 a4 a5 a6 q1 q2 q3 q4 : Pos) : List Stmt :=
  [.Expr (.Call (.Attribute (.Call (.Name "super" a1) [] [] a2) "__init__" a3) [.Constant (.str tx) 0 a4] [] a5) a6, .Assign [.Attribute (.Name "self" q1) fld q2] (.Name fld q3) q4]
def xS (fld : Str) : Scope := { kind := .function, names := [(PySem.Str.ofString "self", .local), (fld, .local), (PySem.Str.ofString "__class__", .free), (PySem.Str.ofString "super", .globalImplicit)], isGenerator := false, isCoroutine := false, more := [] }
/-- what the written part says of the class at C -/
structure Txt (P : Program) (K : Frag) (mg : Str → Option Value) (C : Addr) (cn fld tx : Str) : Prop where
  cls : ∃ nm q N bs bm sn sub ab col dd k0 k1 k2 k3 k5, K.lookup C = some (excClassObj nm q C N bs bm true sn sub ab col dd k0 k1 k2 k3 k5 "ValueError.__new__") ∧ refsVE bm = true
  gC : mg cn = some (.ref C)
  sa : findIn K (.ref C) "__setattr__" = some (some (.builtin "object.__setattr__"))
  ga : findIn K (.ref C) "__getattribute__" = some (some (.builtin "BaseException.__getattribute__"))
  gg : findIn K (.ref C) "__getattr__" = some none
  noN : findIn K (.ref C) fld = some none
  kC : keepIn K (.ref C) = true
  exC : subIn K (.ref C) (.type "BaseException") = some true
  veC : subIn K (.ref C) (.type "ValueError") = some true
  tyC : typeIn K (.ref C) = some (.type "type")
  hdC : hasDictIn K C = true
  mro : mroIn K C (.ref C) = some true
  sup : ks_superIn K C C "__init__" = some (some (.builtin "ValueError.__init__"))
  ms : mg "super" = none
  noq : nsIn K cStatics "thirdparty.any" = some none
  nsl : (fld == ("self" : Str)) = false
  nss : (fld == ("super" : Str)) = false
  nsc : (fld == ("__class__" : Str)) = false
  nsd : (fld == ("__debug__" : Str)) = false
  top : (P.main.scope.names.lookup ("super" : Str)).isSome = false
  bd : ∀ (body : List Stmt) (qual : Str) (p1 p2 : Pos) (doc pm ct cdv : Value) (an : Option Addr) (cc : Addr) (x v : Value), bindArgs (ksFn "__init__" qual (xA fld p1 p2) body (xS fld) .none .none doc pm an cdv ct cc) ⟨[x, v], []⟩ = pure [(("self" : Str), x), (fld, v)]
  fn : ∃ (fI cda cc : Addr) (oc : Value) (od : Option Addr) (doc pm : Value) (an : Option Addr) (ct : Value) (osl : Array (Option Value)) (qual : Str) (p1 p2 a1 a2 a3 a4 a5 a6 q1 q2 q3 q4 : Pos) (ccl cl : Value) (cdd cld : Option Addr) (vs : Array Value) (ccs csl : Array (Option Value)) (file : Str) (tf : Tok),
    findIn K (.ref C) "__init__" = some (some (.ref fI)) ∧ typeIn K (.ref fI) = some (.type "function") ∧
    K.lookup fI = some ⟨oc, od, .func (ksFn "__init__" qual (xA fld p1 p2) (xB fld tx a1 a2 a3 a4 a5 a6 q1 q2 q3 q4) (xS fld) .none .none doc pm an (.ref cda) ct cc), osl⟩ ∧ codeIn K (.ref cda) qual = true ∧
    K.lookup cda = some ⟨ccl, cdd, .fields vs, ccs⟩ ∧ vs[2]? = some (.str file tf) ∧ ((P.main.file : Str) == file) = true ∧ K.lookup cc = some ⟨cl, cld, .cell (some (.ref C)), csl⟩ ∧ (a3.endLine == a5.line) = true
theorem one_size (v : Value) : [v].length ≤ sizeLine := by
  rw [sizeLine_eq]
  exact (by decide : 1 ≤ 16777216)
structure InitEnd (h h' : Heap) (x C dx t1 : Addr) (fld : Str) (v : Value) : Prop where
  keep : ∀ b o, b ≠ x → h.get? b = some o → h'.get? b = some o
  obj : h'.get? x = some { cls := .ref C, dict := some dx, data := .fields #[.ref t1, .none, .none, .none, .bool false, .none] }
  dbig : h.objs.size ≤ dx
  dne : dx ≠ x
  ns : h'.Ns1 dx (fun y => if y = fld then some v else none)
end FX
set_option Elab.async false
set_option linter.all false
set_option maxRecDepth 100000
set_option maxHeartbeats 2000000
set_option autoImplicit false
namespace L2
open PySem PySem.Spec PyProof.Rows
theorem relO_one {fld : Str} {v : V} {v' : Value} (r : RelV v v') (f : Str) : RelO (List.lookup f [(fld, v)]) (if f = fld then some v' else none) := by
  by_cases hw : f = fld
  · subst hw
    rw [if_pos rfl]
    have q : List.lookup f [(f, v)] = some v := by simp [List.lookup]
    rw [q]
    exact r
  · rw [if_neg hw]
    have qw : (f == fld) = false := by simpa using hw
    have q2 : List.lookup f [(fld, v)] = none := by simp [List.lookup, qw]
    rw [q2]
    trivial
end L2
namespace L2
open PySem PySem.Spec PyProof.Rows
end L2
set_option Elab.async false
set_option linter.all false
set_option maxRecDepth 100000
set_option maxHeartbeats 2000000
set_option autoImplicit false
namespace T
open PySem PySem.Spec PyProof.Rows L2
open PySem.W (Frag)
/-! ### exceptions -/
/-- an error of the class at C that keeps x under the word fld -/
structure Er where
  C : Addr
  fld : Str
  x : TV
def erOk (K : Frag) (F : Hp) (e : Er) (cls : Value) (d : Option Addr) : Prop := cls = .ref e.C ∧ ∃ dd v, d = some dd ∧ F dd = some (.xd [(e.fld, v)]) ∧ e.x.ok K F v
theorem erOk.mono {K : Frag} {F F' : Hp} {e : Er} {cls : Value} {d : Option Addr} (s : Same F F') (h : erOk K F e cls d) : erOk K F' e cls d :=
  let ⟨h1, dd, v, h2, h3, h4⟩ := h; ⟨h1, dd, v, h2, s _ _ h3, h4.mono s⟩
section
variable {B : Bs} {F F' : Hp} {Γ Γ' Γ2 : List Sl} {C C' C1 C2 C3 R : Cs} {τ : List TV} {σ : St} {ws : List V} {H H' : Hp} {x y z : TV} {c d : Ct}
variable {ta tb' te td ty : TE} {ca : TA} {D : EndT} {ts tu tw tb : TS} {wi : TI} {g : TG} {e : Er}
/-! try -/
/-- the error that a suite holds -/
structure Exn where
  a : Addr
  dd : Addr
  fld : Str
  ok : Frag → Hp → V → Prop
  mo : ∀ {K : Frag} {F F' : Hp} {v : V}, Same F F' → ok K F v → ok K F' v
instance : Rp Exn := ⟨fun K F v e => v = .ref e.a ∧ ∃ w, F e.dd = some (.xd [(e.fld, w)]) ∧ e.ok K F w, fun {_ _ _ _ e} s h => ⟨h.1, let ⟨w, h1, h2⟩ := h.2; ⟨w, s _ _ h1, e.mo s h2⟩⟩⟩
end
end T
set_option Elab.async false
set_option linter.all false
set_option maxRecDepth 100000
set_option maxHeartbeats 2000000
set_option autoImplicit false
namespace T
open PySem PySem.Spec PyProof.Rows L2
open PySem.W (Frag)
/-! ### things of any kind -/
inductive D where
  | non | bl (b : Bool) | int (n : Int) | str (s : Str) | lst (xs : List D) | tup (xs : List D) | dct (kvs : List (Key × D))
mutual
inductive DOk (K : Frag) (F : Hp) : V → D → Prop
  | non : DOk K F .non .non
  | bl (b : Bool) : DOk K F (.bl b) (.bl b)
  | int (n : Int) : DOk K F (.int n) (.int n)
  | str (s : Str) : DOk K F (.str s) (.str s)
  | lst {a : Addr} {vs : List V} {ds : List D} : F a = some (.lst vs) → DsOk K F vs ds → DOk K F (.ref a) (.lst ds)
  | tup {a : Addr} {vs : List V} {ds : List D} : F a = some (.tup vs) → DsOk K F vs ds → DOk K F (.ref a) (.tup ds)
  | dct {a : Addr} {kvs : List (Key × V)} {ds : List (Key × D)} : F a = some (.dK kvs) → DkOk K F kvs ds → DOk K F (.ref a) (.dct ds)
inductive DsOk (K : Frag) (F : Hp) : List V → List D → Prop
  | nil : DsOk K F [] []
  | cons {v : V} {d : D} {vs : List V} {ds : List D} : DOk K F v d → DsOk K F vs ds → DsOk K F (v :: vs) (d :: ds)
inductive DkOk (K : Frag) (F : Hp) : List (Key × V) → List (Key × D) → Prop
  | nil : DkOk K F [] []
  | cons {k : Key} {v : V} {d : D} {vs : List (Key × V)} {ds : List (Key × D)} : DOk K F v d → DkOk K F vs ds → DkOk K F ((k, v) :: vs) ((k, d) :: ds)
end
mutual
theorem DOk.mono {K : Frag} {F F' : Hp} (s : Same F F') : ∀ {v : V} (d : D), DOk K F v d → DOk K F' v d
  | _, .non, h => by cases h; exact .non
  | _, .bl b, h => by cases h; exact .bl b
  | _, .int n, h => by cases h; exact .int n
  | _, .str x, h => by cases h; exact .str x
  | _, .lst ds, h => by cases h with | lst e r => exact .lst (s _ _ e) (DsOk.mono s ds r)
  | _, .tup ds, h => by cases h with | tup e r => exact .tup (s _ _ e) (DsOk.mono s ds r)
  | _, .dct ds, h => by cases h with | dct e r => exact .dct (s _ _ e) (DkOk.mono s ds r)
theorem DsOk.mono {K : Frag} {F F' : Hp} (s : Same F F') : ∀ {vs : List V} (ds : List D), DsOk K F vs ds → DsOk K F' vs ds
  | _, [], h => by cases h; exact .nil
  | _, d :: ds, h => by cases h with | cons a r => exact .cons (DOk.mono s d a) (DsOk.mono s ds r)
theorem DkOk.mono {K : Frag} {F F' : Hp} (s : Same F F') : ∀ {vs : List (Key × V)} (ds : List (Key × D)), DkOk K F vs ds → DkOk K F' vs ds
  | _, [], h => by cases h; exact .nil
  | _, (k, d) :: ds, h => by cases h with | cons a r => exact .cons (DOk.mono s d a) (DkOk.mono s ds r)
end
instance instRpD : Rp D := ⟨fun K F v d => DOk K F v d, fun s h => h.mono s⟩
theorem DsOk.all2 {K : Frag} {F : Hp} : ∀ {vs : List V} {ds : List D}, DsOk K F vs ds → All2 (Rp.rp K F) vs ds
  | _, _, .nil => .nil
  | _, _, .cons a r => .cons a (DsOk.all2 r)
/-- ones that are such things -/
class AsD (α : Type) extends Rp α where
  toD : α → D
  okD : ∀ {K F v x}, Rp.rp K F v x → DOk K F v (toD x)
instance : AsD D := ⟨id, fun h => h⟩
instance : AsD Int := ⟨.int, fun h => by cases h; exact .int _⟩
instance : AsD Bool := ⟨.bl, fun h => by cases h; exact .bl _⟩
instance : AsD Str := ⟨.str, fun h => by cases h; exact .str _⟩
instance : AsD Unit := ⟨fun _ => .non, fun h => by cases h; exact .non⟩
theorem dsOk_map {α : Type} [AsD α] {K : Frag} {F : Hp} : ∀ {vs : List V} {xs : List α}, All2 (Rp.rp K F) vs xs → DsOk K F vs (xs.map AsD.toD)
  | _, _, .nil => .nil
  | _, _, .cons a r => .cons (AsD.okD a) (dsOk_map r)
instance {α : Type} [AsD α] : AsD (List α) := ⟨fun xs => .lst (xs.map AsD.toD), fun h => by obtain ⟨a, vs, rfl, h, r⟩ := h; exact .lst h (dsOk_map r)⟩
instance {α : Type} [AsD α] : AsD (Tp α) := ⟨fun xs => .tup (xs.l.map AsD.toD), fun h => by obtain ⟨a, vs, rfl, h, r⟩ := h; exact .tup h (dsOk_map r)⟩
instance {α β : Type} [AsD α] [AsD β] : AsD (α × β) := ⟨fun x => .tup [AsD.toD x.1, AsD.toD x.2], fun h => by obtain ⟨a, v1, v2, rfl, h, r1, r2⟩ := h; exact .tup h (.cons (AsD.okD r1) (.cons (AsD.okD r2) .nil))⟩
/-- what t is is the thing d -/
def Dyn (t : TV) (d : D) : Prop := ∀ K F v, t.ok K F v → DOk K F v d
theorem dyn_of {α : Type} [AsD α] {x : α} : Dyn (tv x) (AsD.toD x) := fun _ _ _ h => AsD.okD h
/-- .. and which object it is -/
structure Vid (α : Type) where
  v : V
  x : α
instance {α : Type} [Rp α] : Rp (Vid α) := ⟨fun K F u y => u = y.v ∧ Rp.rp K F y.v y.x, fun s h => ⟨h.1, Rp.mono s h.2⟩⟩
theorem dyn_vid {α : Type} [AsD α] {x : Vid α} : Dyn (tv x) (AsD.toD x.x) := fun _ _ _ h => by obtain ⟨rfl, h⟩ := h; exact AsD.okD h
/-- a built-in type -/
structure Ty where
  n : String
instance : Rp Ty := ⟨fun _ _ v t => v = .ty t.n, fun _ h => h⟩
def D.tn : D → String
  | .non => "NoneType" | .bl _ => "bool" | .int _ => "int" | .str _ => "str" | .lst _ => "list" | .tup _ => "tuple" | .dct _ => "dict"
theorem DOk.ty {K : Frag} {F H : Hp} {v : V} {d : D} (s : Sub F H) (h : DOk K F v d) : TyX K H v (.type d.tn) := by
  cases h with
  | non => exact .base .non
  | bl b => exact .base (.bl b)
  | int n => exact .base (.int n)
  | str x => exact .base (.str x)
  | lst e _ => exact .base (.lst (s _ _ e))
  | tup e _ => exact .base (.tup (s _ _ e))
  | dct e _ => exact .base (.dK (s _ _ e))
def D.isInt : D → Bool | .int _ => true | .bl _ => true | _ => false
def D.isBool : D → Bool | .bl _ => true | _ => false
def D.isStr : D → Bool | .str _ => true | _ => false
def D.isLst : D → Bool | .lst _ => true | _ => false
def D.isTup : D → Bool | .tup _ => true | _ => false
def D.isDct : D → Bool | .dct _ => true | _ => false
/-- n names a type that b tells of things -/
def IsK (n : String) (f : D → Bool) : Prop := ∀ d, kitB d.tn n = some (f d)
theorem isk_int : IsK "int" D.isInt := fun d => by cases d <;> (simp only [D.tn, D.isInt, D.isBool, D.isStr, D.isLst, D.isTup, D.isDct]; decide +kernel)
theorem isk_bool : IsK "bool" D.isBool := fun d => by cases d <;> (simp only [D.tn, D.isInt, D.isBool, D.isStr, D.isLst, D.isTup, D.isDct]; decide +kernel)
theorem isk_str : IsK "str" D.isStr := fun d => by cases d <;> (simp only [D.tn, D.isInt, D.isBool, D.isStr, D.isLst, D.isTup, D.isDct]; decide +kernel)
theorem isk_lst : IsK "list" D.isLst := fun d => by cases d <;> (simp only [D.tn, D.isInt, D.isBool, D.isStr, D.isLst, D.isTup, D.isDct]; decide +kernel)
theorem isk_tup : IsK "tuple" D.isTup := fun d => by cases d <;> (simp only [D.tn, D.isInt, D.isBool, D.isStr, D.isLst, D.isTup, D.isDct]; decide +kernel)
theorem isk_dct : IsK "dict" D.isDct := fun d => by cases d <;> (simp only [D.tn, D.isInt, D.isBool, D.isStr, D.isLst, D.isTup, D.isDct]; decide +kernel)
/-- several -/
inductive IsKs : List Ty → (D → Bool) → Prop
  | nil : IsKs [] (fun _ => false)
  | cons {n : String} {ns : List Ty} {f g : D → Bool} : IsK n f → IsKs ns g → IsKs (⟨n⟩ :: ns) (fun d => f d || g d)
theorem IsKs.kit {K : Frag} {d : D} : ∀ {ns : List Ty} {f : D → Bool}, IsKs ns f → PySem.W.kitAny K (.type d.tn) (ns.map fun t => Value.type t.n) = some (f d)
  | _, _, .nil => kitAny_nil
  | _, _, .cons (f := f) (g := g) h r => kitAny_cons (b := f d) (kit_ty (h d)) (fun e => by show _ = some (f d || g d); rw [e]; exact r.kit) (fun e => by show (f d || g d) = true; rw [e]; rfl)
section
variable {B : Bs} {F F' : Hp} {Γ Γ' Γ2 : List Sl} {C C' C1 C2 C3 R : Cs} {τ : List TV} {σ : St} {ws : List V} {H H' : Hp} {x y z : TV} {c : Ct} {d : D}
variable {ta tb' te td ty : TE} {ca : TA} {D' : EndT} {ts tu tw tb : TS} {wi : TI} {g : TG} {e : Er}
theorem ev_ty {n : String} : Ev B (tC (.ty n)) Γ C (tv (Ty.mk n)) C := fun τ σ ws H ⟨F, st⟩ Q q => q _ H (ST.push st rfl)
theorem cs_isi {n : String} {f : D → Bool} (hd : Dyn x d) (h : IsK n f) : CbS B C (rIsi B.K) [x, tv (Ty.mk n)] (tv (f d)) := fun F H vs hf hv Q q => by
  cases hv with
  | cons h1 h2 => cases h2 with
    | cons h2 h3 =>
      cases h3
      obtain rfl := h2
      exact ⟨_, _, _, _, _, rfl, .ty n, (hd _ _ _ h1).ty hf.sub, kit_ty (h d), q _ rfl⟩
theorem cs_isiT {ns : List Ty} {f : D → Bool} (hd : Dyn x d) (h : IsKs ns f) : CbS B C (rIsiT B.K) [x, tv (Tp.mk ns)] (tv (f d)) := fun F H vs hf hv Q q => by
  cases hv with
  | cons h1 h2 => cases h2 with
    | cons h2 h3 =>
      cases h3
      obtain ⟨a, vs, rfl, e, r⟩ := h2
      refine ⟨_, _, vs, _, ns.map fun t => Value.type t.n, _, rfl, hf.sub _ _ e, ?_, (hd _ _ _ h1).ty hf.sub, h.kit, q _ rfl⟩
      clear e h q
      have r' : All2 (Rp.rp B.K F) vs ns := r
      clear r
      induction r' with
      | nil => exact .nil
      | cons h _ ih => obtain rfl := h; exact .cons (.ty _) ih
/-! parts of things -/
/-- a name's value gets its object told -/
theorem ss_vid {α : Type} [Rp α] {a : α} {i : Nat} (hi : Γ[i]? = some (some (tv a))) (h : ∀ v, Ss B tu (Γ.set i (some (tv (Vid.mk v a)))) C D') : Ss B tu Γ C D' := fun τ σ ws H ⟨F, st⟩ E im => by
  obtain ⟨s1, h1, h2⟩ := st.slots.get hi
  obtain ⟨v, rfl, h4⟩ := h2 _ rfl
  refine h v τ σ ws H ⟨F, st.hf, ?_, st.temps⟩ E im
  have := st.slots.set (a := some v) (b := some (tv (Vid.mk v a))) (fun t e => by cases e; exact ⟨v, rfl, rfl, h4⟩) i
  have e : σ.set i (some v) = σ := by
    apply List.ext_getElem?
    intro j
    by_cases hj : i = j
    · subst hj
      have hl := (List.getElem?_eq_some_iff.mp h1).1
      rw [List.getElem?_set_self hl, h1]
    · rw [List.getElem?_set_ne hj]
  rw [e] at this
  exact this
/-! a call that only reads: cells are handed on as values -/
/-- x as the callee sees it -/
inductive Vw (C : Cs) : TV → TV → Prop
  | val {x : TV} : Vw C x x
  | lst {α : Type} [Rp α] {p : Addr} {xs : List α} : (p, Ct.lst xs) ∈ C → Vw C (tv (Ptr.mk p)) (tv xs)
  | lstD {α : Type} [AsD α] {xs : List α} : Vw C (tv xs) (tv (xs.map AsD.toD))
/-- F with all cells as they stand -/
def lockAll (C : Cs) (F H : Hp) : Hp := fun a => if a ∈ C.map (·.1) then H a else F a
theorem HF.same (h : HF B F C H) : Same F (lockAll C F H) := fun a o e => by
  unfold lockAll
  split
  · rename_i hm
    obtain ⟨p, hp, rfl⟩ := List.mem_map.mp hm
    rw [(h.cells p hp).1] at e; cases e
  · exact e
theorem HF.cellAt (h : HF B F C H) {p : Addr} {c : Ct} (hp : (p, c) ∈ C) : ∃ o, lockAll C F H p = some o ∧ c.ho B.K (lockAll C F H) o := by
  obtain ⟨_, ⟨o, h2, h3⟩, _⟩ := h.cells _ hp
  refine ⟨o, ?_, h3.mono h.same⟩
  unfold lockAll
  rw [if_pos (List.mem_map.mpr ⟨_, hp, rfl⟩)]
  exact h2
theorem Vw.ok (h : HF B F C H) {x y : TV} (w : Vw C x y) {v : V} (hv : x.ok B.K F v) : y.ok B.K (lockAll C F H) v := by
  cases w with
  | val => exact hv.mono h.same
  | lst hp =>
    obtain rfl : v = .ref _ := hv
    obtain ⟨o, h1, vs, rfl, h2⟩ := h.cellAt hp
    exact ⟨_, vs, rfl, h1, h2⟩
  | lstD =>
    obtain ⟨a, vs, rfl, h1, h2⟩ := hv
    exact ⟨a, vs, rfl, h.same _ _ h1, (dsOk_map h2).all2.mono fun _ _ q => Rp.mono h.same q⟩
end
/-! either reading -/
def tOrE (t u : TE) : TE := fun σ H Q => t σ H Q ∨ u σ H Q
end T
namespace L2
open PySem PySem.Spec PyProof.Rows
theorem pe_alt {X : Cx} {e : Expr} {t u : TE} (h1 : PE X e t) (h2 : PE X e u) : PE X e (T.tOrE t u) := ⟨fun pins s σ H Q I h => h.elim (h1.run pins s σ H Q I) (h2.run pins s σ H Q I)⟩
end L2
set_option Elab.async false
set_option linter.all false
set_option maxRecDepth 100000
set_option maxHeartbeats 2000000
set_option autoImplicit false
namespace L2
open PySem PySem.Spec PyProof.Rows
open PySem.W (Frag alike alikeAll dataLe dataLt AllAlike EachIs KeyPure)
/-! sorted(xs, key=sum) -/
end L2
namespace T
open PySem PySem.Spec PyProof.Rows L2
open PySem.W (Frag alike alikeAll dataLe dataLt AllAlike)
end T
set_option Elab.async false
set_option linter.all false
set_option maxRecDepth 100000
set_option maxHeartbeats 2000000
set_option autoImplicit false
/-! sorted(xs, key=f) where the keys may hold lists (the library's KE.SortKeyHeap, its lemmas turned to such keys) -/
namespace PySem.W
open PySem PySem.Calls PyProof.Rows
end PySem.W
namespace LamX
open PySem PySem.Spec PyProof.Rows L2
open PySem.W (Frag alike alikeAll dataLe dataLt AllAlike EachIs KeyPure)
/-! lambda one: (sum(one), one), called -/
def lamA (vn : Str) (p1 : Pos) : Arguments := { posonlyargs := [], args := [{ arg := vn, annotation := none, pos := p1 }], vararg := none, kwonlyargs := [], kw_defaults := [], kwarg := none, defaults := [] }
end LamX
namespace LamX
open PySem PySem.Spec PyProof.Rows L2
open PySem.W (Frag alike alikeAll dataLe dataLt AllAlike EachIs)
/-- the table at P, its code objects told by H -/
def TabAt (H : Hp) (P : Addr) (q : Str) (ps : Array Value) : Prop := H P = some (.tbl ps) ∧ TriplesOk ps.toList ∧ ∀ (pos : Pos) (cv : Value), codeAmong pos ps.toList = some cv → ∃ c, cv = .ref c ∧ H c = some (CodeO c q)
end LamX
set_option Elab.async false
set_option linter.all false
set_option maxRecDepth 100000
set_option maxHeartbeats 2000000
set_option autoImplicit false
namespace T
open PySem PySem.Spec PyProof.Rows L2 LamX
open PySem.W (Frag alike alikeAll dataLe dataLt AllAlike)
end T
set_option Elab.async false
set_option linter.all false
set_option maxRecDepth 100000
set_option maxHeartbeats 2000000
set_option autoImplicit false
namespace L2
open PySem PySem.Spec PyProof.Rows
/-- a def's code object -/
def codeAt (K : PySem.W.Frag) (f : Addr) : Option Value := match K.lookup f with | some ⟨_, _, .func fd, _⟩ => some fd.code | _ => none
theorem Fun.okC {P : Program} {w : World} {K : PySem.W.Frag} {mg : Str → Option Value} {base : Heap} {x qual : Str} {st : Stmt} {f : Addr} {fd : FuncData} {N ps : List Str} {k : Nat} {sp : Sp} (F : Fun K x qual st f fd) (S : FnScope N ps (defScope st)) (len : ∀ vs H Q E, sp vs H Q E → vs.length = ps.length)
    (hbody : ∀ (cdv : Value) (A : Around) (outer : List Env) (s : Shared) (H : Hp) (vs : List V) (Q : VK) (E : XK), codeAt K f = some cdv → Room k (A.deeper (envOfC qual (defScope st) s.heap.objs.size f cdv)) → sp vs H Q E →
      ∃ t, PSs (cxOf CX0 P w K mg base N qual (defScope st) f cdv A outer s H E).nox (defBody st) t ∧ t { nx := fun _ H' => Q .non H', rt := Q } (start N vs) H) : FnOk P w K mg base CX0 (k + 1) f fd ps sp := by
  obtain ⟨oc, od, kV, doc, pm, an, cdv, ct, osl, rfl, lk, hcd⟩ := F.ex
  refine fn_of lk hcd S len fun A outer s H vs Q E hr hsp => ?_
  obtain ⟨t, h, q⟩ := hbody cdv A outer s H vs Q E (by unfold codeAt; rw [lk]) hr hsp
  exact ⟨t, h.nox, q⟩
end L2
namespace T
open PySem PySem.Spec PyProof.Rows L2
open PySem.W (Frag)
/-! ### more partial words -/
instance (i j : Int) : Decidable (CDiv i j) := inferInstanceAs (Decidable (_ ∧ _))
instance (i j : Int) : Decidable (CPow i j) := inferInstanceAs (Decidable (_ ∧ _ ∧ _))
def powO (i j : Int) : Option Int := if CPow i j then some (i ^ j.toNat) else none
theorem powO_some {i j r : Int} (h : powO i j = some r) : r = i ^ j.toNat ∧ CPow i j := by
  unfold powO at h
  split at h
  · cases h; exact ⟨rfl, by assumption⟩
  · cases h
/-- data whose == is = -/
class DatE (α : Type) extends Dat α where
  lay : ∀ x, (enc x).canLay0 = true
  eqv : ∀ x y, PyData.eqv (enc x) (enc y) = true ↔ x = y
theorem canLay_map {α : Type} [DatE α] : ∀ xs : List α, PyData.canLayAll0 (xs.map Dat.enc) = true
  | [] => by simp [PyData.canLayAll0]
  | x :: xs => by simp [PyData.canLayAll0, DatE.lay, canLay_map xs]
theorem eqvAll_map {α : Type} [DatE α] : ∀ xs ys : List α, PyData.eqvAll (xs.map Dat.enc) (ys.map Dat.enc) = true ↔ xs = ys
  | [], [] => by simp [PyData.eqvAll]
  | [], y :: ys => by simp [PyData.eqvAll]
  | x :: xs, [] => by simp [PyData.eqvAll]
  | x :: xs, y :: ys => by simp [PyData.eqvAll, DatE.eqv, eqvAll_map xs ys]
instance : DatE Int := ⟨fun x => by simp [Dat.enc, PyData.canLay0], fun x y => by simp [Dat.enc, PyData.eqv]⟩
instance {α : Type} [DatE α] : DatE (List α) := ⟨fun x => by simp [Dat.enc, PyData.canLay0, canLay_map], fun x y => by simp [Dat.enc, PyData.eqv, eqvAll_map]⟩
instance {α : Type} [DatE α] : DatE (Tp α) := ⟨fun x => by simp [Dat.enc, PyData.canLay0, canLay_map], fun x y => by cases x; cases y; simp [Dat.enc, PyData.eqv, eqvAll_map]⟩
theorem DatE.shp {α : Type} [DatE α] (h : Dat.dep α ≤ 64) (x : α) : SeqAt.shaped (Dat.enc x) = true := by
  unfold SeqAt.shaped
  rw [DatE.lay, Bool.true_and, decide_eq_true_eq]
  exact Nat.le_trans (Dat.hdep x) h
section
variable {B : Bs} {F F' : Hp} {Γ Γ' Γ2 : List Sl} {C C' C1 C2 C3 R : Cs} {τ : List TV} {σ : St} {ws : List V} {H H' : Hp} {x y z : TV} {c d : Ct}
variable {ta tb' te td ty : TE} {ca : TA} {D' : EndT} {ts tu tw tb : TS} {wi : TI} {g : TG} {t u : TT} {b b' : Bool}
variable {α β κ : Type} [Rp α] [Rp β]
theorem os_pow {i j : Int} (h : CPow i j) : OpS B C (rI CPow fun i j => .int (i ^ j.toNat)) (tv i) (tv j) (tv (i ^ j.toNat)) := os_I h fun _ _ => rfl
theorem cs_int {i : Int} : CbS B C (fun xs H Q => (∃ i, xs = [V.int i] ∧ Q (.int i) H) ∨ ∃ k, xs = [V.bl k] ∧ Q (.int (if k then 1 else 0)) H) [tv i] (tv i) := fun F H vs hf hv Q q => by
  cases hv with
  | cons h1 h2 =>
    cases h2
    obtain rfl := h1
    exact .inl ⟨i, rfl, q _ rfl⟩
/-- xs[i] = v, xs a cell -/
def setO (xs : List α) (i : Int) (v : α) : Option (List α) := (ixN xs.length i).bind fun j => some (xs.set j v)
theorem All2.listSet {α β : Type _} {R : α → β → Prop} : ∀ {as : List α} {bs : List β}, All2 R as bs → ∀ {a : α} {b : β}, R a b → ∀ i, All2 R (as.set i a) (bs.set i b)
  | _, _, .nil, _, _, _, _ => .nil
  | _, _, .cons _ t, _, _, r, 0 => .cons r t
  | _, _, .cons h t, _, _, r, i + 1 => .cons h (All2.listSet t r i)
theorem ss_iset {p : Addr} {k : Nat} {i : Int} {a : α} {xs xs' : List α} (hv : Ev B te Γ C (tv a) C1) (ho : Ev B ta Γ C1 (tv (Ptr.mk p)) C2) (hi : Ev B tb' Γ C2 (tv i) C3) (hk : C3[k]? = some (p, .lst xs)) (hs : setO xs i a = some xs')
    (n : Ss B tu Γ (C3.set k (p, .lst xs')) D') : Ss B (tSeq (tAsg te (gSub ta tb' rSetL)) tu) Γ C D' := fun τ σ ws H st E im =>
  hv τ σ ws H st _ fun v H1 s1 => ho _ σ _ H1 s1 _ fun u H2 s2 => hi _ σ _ H2 s2 _ fun w H3 s3 => by
    obtain ⟨F, s4, hw⟩ := s3.pop
    cases s4.temps with
    | cons hu ht => cases ht with
      | cons hv2 ht2 =>
        obtain rfl : u = .ref p := hu
        obtain rfl : w = .int i := hw
        obtain ⟨_, ⟨o, h2, vs, rfl, h3⟩, _⟩ := s4.hf.cells _ (List.mem_of_getElem? hk)
        obtain ⟨j, hj, e⟩ := bind_some hs
        cases e
        have h3' : All2 (Rp.rp B.K F) vs xs := h3
        refine ⟨p, vs, i, j, rfl, rfl, h2, by rw [h3'.length]; exact hj, ?_⟩
        exact n τ σ ws _ ⟨F, s4.hf.write (c' := .lst (xs.set j a)) hk ⟨_, rfl, All2.listSet h3' hv2 j⟩, s4.slots, ht2⟩ E im
/-- for k in d, d of tuple keys -/
structure PinT (κ α : Type) where
  a : Addr
  o : Obj
  ps : List (List Key × V)
  l : List (Tp κ × α)
instance {κ α : Type} [Ky κ] [Rp α] : Rp (PinT κ α) := ⟨fun K F v x => v = .ref x.a ∧ F x.a = some (.frz x.o (.dT x.ps)) ∧ All2 (KtOk K F) x.ps x.l, fun s h => ⟨h.1, s _ _ h.2.1, h.2.2.mono fun _ _ q => q.mono s⟩⟩
end
end T
set_option Elab.async false
set_option linter.all false
set_option maxRecDepth 100000
set_option maxHeartbeats 2000000
set_option autoImplicit false
namespace L2
open PySem PySem.Spec PyProof.Rows
theorem ifT {c : Bool} {A B : Prop} (hc : c = true) (h : A) : if c = true then A else B := by rw [if_pos hc]; exact h
/-! what is never reached -/
def tNoS : TS := fun _ _ _ => False
theorem pss_no {X : Cx} {ss : List Stmt} : PSs X ss tNoS := ⟨fun _ _ _ _ _ _ h => h.elim⟩
end L2
namespace T
open PySem PySem.Spec PyProof.Rows L2 RZ
open PySem.W (Frag)
/-! things without dicts, how deep -/
mutual
def D.dp : D → Nat
  | .lst ds => D.dpAll ds + 1
  | .tup ds => D.dpAll ds + 1
  | _ => 0
def D.dpAll : List D → Nat
  | [] => 0
  | d :: ds => max d.dp (D.dpAll ds)
end
mutual
def D.nod : D → Bool
  | .lst ds => decide (ds.length ≤ 1000000) && D.nodAll ds
  | .tup ds => decide (ds.length ≤ 1000000) && D.nodAll ds
  | .dct _ => false
  | _ => true
def D.nodAll : List D → Bool
  | [] => true
  | d :: ds => d.nod && D.nodAll ds
end
theorem D.dp_mem {d : D} : ∀ {ds : List D}, d ∈ ds → d.dp ≤ D.dpAll ds
  | e :: ds, h => by
    rw [D.dpAll]
    rcases List.mem_cons.mp h with rfl | h
    · exact Nat.le_max_left _ _
    · exact Nat.le_trans (D.dp_mem h) (Nat.le_max_right _ _)
theorem D.nod_mem {d : D} : ∀ {ds : List D}, d ∈ ds → D.nodAll ds = true → d.nod = true
  | e :: ds, h, hn => by
    rw [D.nodAll, Bool.and_eq_true] at hn
    rcases List.mem_cons.mp h with rfl | h
    · exact hn.1
    · exact D.nod_mem h hn.2
/-- the parts of a list or tuple -/
def D.items : D → List D
  | .lst ds => ds
  | .tup ds => ds
  | _ => []
def D.isSeq : D → Bool | .lst _ => true | .tup _ => true | _ => false
theorem D.items_nod {d : D} (h : d.nod = true) : D.nodAll d.items = true ∧ d.items.length ≤ 1000000 := by
  cases d <;> simp [D.nod, D.items, D.nodAll] at h ⊢
  · exact ⟨h.2, h.1⟩
  · exact ⟨h.2, h.1⟩
theorem D.items_dp {d x : D} (h : x ∈ d.items) : x.dp < d.dp := by
  cases d <;> simp [D.items] at h
  · have := D.dp_mem h; rw [D.dp]; omega
  · have := D.dp_mem h; rw [D.dp]; omega
theorem lcL_all {α β : Type} {c : β} : ∀ (xs : List α), lcO (fun _ => some true) (fun _ => some c) xs = some (xs.map fun _ => c)
  | [] => rfl
  | x :: xs => by
    simp only [lcO, lcL_all xs]
    rfl
theorem lcL_const {α β : Type} {c : β} {xs : List α} (h : xs.length ≤ 1000000) : lcL (fun _ => some true) (fun _ => some c) xs = some (xs.map fun _ => c) := by
  unfold lcL
  rw [lcL_all]
  unfold lim
  show (if _ then _ else _) = _
  rw [if_pos (by rw [List.length_map, sizeLine_eq]; omega)]
theorem zip_self {α : Type} {p : α × α} : ∀ {l : List α}, p ∈ l.zip l → p.1 = p.2 ∧ p.1 ∈ l
  | x :: l, h => by
    rw [List.zip_cons_cons] at h
    rcases List.mem_cons.mp h with rfl | h
    · exact ⟨rfl, List.mem_cons_self⟩
    · exact ⟨(zip_self h).1, List.mem_cons_of_mem _ (zip_self h).2⟩
section
variable {B : Bs} {F F' : Hp} {Γ Γ' Γ2 : List Sl} {C C' C1 C2 C3 R : Cs} {τ : List TV} {σ : St} {ws : List V} {H H' : Hp} {x y z : TV} {c : Ct} {d : D}
variable {ta tb' te td ty : TE} {ca : TA} {D' : EndT} {ts tu tw tb : TS} {wi : TI} {g : TG} {t u : TT}
theorem cs_lenD2 (hd : Dyn x d) (hs : d.isSeq = true) : CbS B C (rLen B.K) [x] (tv (d.items.length : Int)) := fun F H vs hf hv Q q => by
  cases hv with
  | cons h1 h2 =>
    cases h2
    have := hd _ _ _ h1
    cases this <;> try cases hs
    · rename_i a vs ds e r
      exact ⟨a, vs, rfl, .inl (.inl (.inl (hf.sub _ _ e))), q _ (by have := r.all2.length; show V.int _ = V.int _; rw [this]; rfl)⟩
    · rename_i a vs ds e r
      exact ⟨a, vs, rfl, .inr (.inl (.inl (hf.sub _ _ e))), q _ (by have := r.all2.length; show V.int _ = V.int _; rw [this]; rfl)⟩
/-- two lists, two tuples, walked side by side -/
structure PinY where
  a : Addr
  b : Addr
  vs : List V
  ws : List V
  l : List D
  m : List D
  tp : Bool
instance : Rp PinY := ⟨fun K F v x => v = .ref x.a ∧ F x.a = some (if x.tp then .tup x.vs else .lst x.vs) ∧ DsOk K F x.vs x.l ∧ F x.b = some (if x.tp then .tup x.ws else .lst x.ws) ∧ DsOk K F x.ws x.m,
  fun s h => ⟨h.1, s _ _ h.2.1, h.2.2.1.mono s, s _ _ h.2.2.2.1, h.2.2.2.2.mono s⟩⟩
theorem ei_zipA {d1 d2 : D} (h1 : Dyn x d1) (h2 : Dyn y d2) (hs : d1.isSeq = true) (hq : d2.tn = d1.tn) (h : EvA B ca Γ C [x, y] C1) : EvI B (iZipA B.K ca) Γ C (d1.items.zip d2.items) C1 := fun τ σ ws H st R q =>
  h τ σ ws H st _ fun vs H1 s1 hln => by
    obtain ⟨F0, s2, hv⟩ := EvA.out s1 hln
    cases hv with
    | cons g1 g2 => cases g2 with
      | cons g2 g3 =>
        cases g3
        have o1 := h1 _ _ _ g1
        have o2 := h2 _ _ _ g2
        cases o1 with
        | @lst a us ds e r => cases o2 with
          | @lst b ws' es e' r' =>
            refine ⟨a, b, us, ws', rfl, .inl ⟨.inl (.inl (s2.hf.sub _ _ e)), .inl (.inl (s2.hf.sub _ _ e')), q _ (tv (PinY.mk a b us ws' ds es false)) (.ref a) H1 (ST.push s2 ⟨rfl, e, r, e', r'⟩) fun i F C H hf hk => ?_⟩⟩
            obtain ⟨_, k1, k2, k3, k4⟩ := hk
            have hq1 : SqL B.K H a us := .inl (.inl (hf.sub _ _ k1))
            have hq2 : SqL B.K H b ws' := .inl (.inl (hf.sub _ _ k3))
            have l1 : us.length = ds.length := k2.all2.length
            have l2 : ws'.length = es.length := k4.all2.length
            refine ⟨fun hi => ⟨us, ws', hq1, hq2, by rw [List.length_zip] at hi; show us.length ≤ i ∨ ws'.length ≤ i; have : min ds.length es.length ≤ i := hi; omega⟩, fun p hp => ?_⟩
            have hp' : ds[i]? = some p.1 ∧ es[i]? = some p.2 := List.getElem?_zip_eq_some.mp hp
            obtain ⟨w, h3, h4⟩ := k2.all2.get hp'.1
            obtain ⟨w2, h5, h6⟩ := k4.all2.get hp'.2
            have h3' : us[i]? = some w := h3
            have h5' : ws'[i]? = some w2 := h5
            refine ⟨⟨us, ws', w, w2, hq1, hq2, h3', h5'⟩, fun x H' hy => ?_⟩
            obtain ⟨T, y, z, rfl, hT, rfl, fy, fz⟩ := hy
            have h7 := fy us hq1
            have h8 := fz ws' hq2
            rw [h3'] at h7
            rw [h5'] at h8
            cases h7
            cases h8
            obtain ⟨hf', sF, sH⟩ := hf.laid (o := .tup [w, w2]) hT
            exact ⟨_, sF, hf', T, w, w2, rfl, upd_same, Rp.mono sF h4, Rp.mono sF h6⟩
          | _ => exact absurd hq (by simp [D.tn])
        | @tup a us ds e r => cases o2 with
          | @tup b ws' es e' r' =>
            refine ⟨a, b, us, ws', rfl, .inr ⟨.inl (.inl (s2.hf.sub _ _ e)), .inl (.inl (s2.hf.sub _ _ e')), q _ (tv (PinY.mk a b us ws' ds es true)) (.ref a) H1 (ST.push s2 ⟨rfl, e, r, e', r'⟩) fun i F C H hf hk => ?_⟩⟩
            obtain ⟨_, k1, k2, k3, k4⟩ := hk
            have hq1 : SqT B.K H a us := .inl (.inl (hf.sub _ _ k1))
            have hq2 : SqT B.K H b ws' := .inl (.inl (hf.sub _ _ k3))
            have l1 : us.length = ds.length := k2.all2.length
            have l2 : ws'.length = es.length := k4.all2.length
            refine ⟨fun hi => ⟨us, ws', hq1, hq2, by rw [List.length_zip] at hi; show us.length ≤ i ∨ ws'.length ≤ i; have : min ds.length es.length ≤ i := hi; omega⟩, fun p hp => ?_⟩
            have hp' : ds[i]? = some p.1 ∧ es[i]? = some p.2 := List.getElem?_zip_eq_some.mp hp
            obtain ⟨w, h3, h4⟩ := k2.all2.get hp'.1
            obtain ⟨w2, h5, h6⟩ := k4.all2.get hp'.2
            have h3' : us[i]? = some w := h3
            have h5' : ws'[i]? = some w2 := h5
            refine ⟨⟨us, ws', w, w2, hq1, hq2, h3', h5'⟩, fun x H' hy => ?_⟩
            obtain ⟨T, y, z, rfl, hT, rfl, fy, fz⟩ := hy
            have h7 := fy us hq1
            have h8 := fz ws' hq2
            rw [h3'] at h7
            rw [h5'] at h8
            cases h7
            cases h8
            obtain ⟨hf', sF, sH⟩ := hf.laid (o := .tup [w, w2]) hT
            exact ⟨_, sF, hf', T, w, w2, rfl, upd_same, Rp.mono sF h4, Rp.mono sF h6⟩
          | _ => exact absurd hq (by simp [D.tn])
        | _ => exact absurd hs (by simp [D.isSeq])
theorem atI_lastT {α : Type} (xs : List α) (x : α) : atI (xs ++ [x]) (-1) = some x := by
  unfold atI ixN
  rw [if_neg (by decide), if_pos (by simp; omega)]
  have e : (-1 + ((xs.length : Int) + 1)).toNat = xs.length := by omega
  simp [e]
/-- flat things: is None, == -/
theorem os_isNone (hd : Dyn x d) : OpS B C (fun x y H Q => y = .non ∧ Q (.bl (decide (x = .non))) H) x (tv ()) (tv (match d with | .non => true | _ => false)) := fun F H v w hf hv hw Q q => by
  refine ⟨hw, q _ ?_⟩
  have := hd _ _ _ hv
  show V.bl _ = V.bl _
  cases this <;> simp
theorem flatD_eq {K : Frag} {F : Hp} {v w : V} {d : D} (h1 : DOk K F v d) (h2 : DOk K F w d) (hs : d.isSeq = false) (hn : d.nod = true) : v = w ∧ scal v w = true := by
  cases h1 <;> cases h2 <;> first | (simp [D.isSeq] at hs; done) | (simp [D.nod] at hn; done) | (refine ⟨rfl, ?_⟩; simp [scal]; done)
theorem os_eqFlat (h1 : Dyn x d) (h2 : Dyn y d) (hs : d.isSeq = false) (hn : d.nod = true) : OpS B C rEq x y (tv true) := fun F H v w hf hv hw Q q => by
  obtain ⟨e, s⟩ := flatD_eq (h1 _ _ _ hv) (h2 _ _ _ hw) hs hn
  subst e
  exact ⟨s, q _ (by show V.bl _ = V.bl _; simp)⟩
end
end T
set_option Elab.async false
set_option linter.all false
set_option maxRecDepth 100000
set_option maxHeartbeats 2000000
set_option autoImplicit false
namespace T
open PySem PySem.Spec PyProof.Rows L2
open PySem.W (Frag)
/-! arguments that may be new objects -/
def EvAx (B : Bs) (t : TA) (Γ : List Sl) (C : Cs) (K : List TV → Cs → Prop) : Prop :=
  ∀ τ σ ws H, ST B Γ C τ σ ws H → ∀ Q : List V → Hp → Prop, (∀ xs C' vs H', K xs C' → ST B Γ C' (xs ++ τ) σ (vs ++ ws) H' → vs.length = xs.length → Q vs H') → t σ H Q
section
variable {B : Bs} {F F' : Hp} {Γ Γ' Γ2 : List Sl} {C C' C1 C2 C3 R : Cs} {τ : List TV} {σ : St} {ws : List V} {H H' : Hp} {x y z : TV} {c d : Ct}
variable {ta tb' te td ty : TE} {ca : TA} {D' : EndT} {ts tu tw tb : TS} {wi : TI} {g : TG} {t u : TT} {b b' : Bool} {k2 : List TV → Cs → Prop}
theorem eax_nil : EvAx B tNil Γ C (fun xs C' => xs = [] ∧ C' = C) := fun τ σ ws H st Q q => q [] C [] H ⟨rfl, rfl⟩ st rfl
theorem eax_cons (h : Ev B te Γ C x C1) (hr : EvAx B ca Γ C1 k2) : EvAx B (tCons te ca) Γ C (fun xs C' => ∃ r, xs = x :: r ∧ k2 r C') := fun τ σ ws H st Q q =>
  h τ σ ws H st _ fun v H1 s1 => hr _ σ _ H1 s1 _ fun xs C' vs H2 hk ⟨F, s2⟩ hl => q (x :: xs) C' _ H2 ⟨xs, rfl, hk⟩ ⟨F, s2.hf, s2.slots, All2.move s2.temps hl⟩ (by simp [hl])
/-- a, b = .. -/
theorem ss_parX {i j : Nat} (ha : EvAx B ca Γ C k2) (k : ∀ x y C1, k2 [x, y] C1 → Ss B tu ((Γ.set i (some x)).set j (some y)) C1 D') (h2 : ∀ xs C1, k2 xs C1 → xs.length = 2) : Ss B (tSeq (tPar i j ca) tu) Γ C D' := fun τ σ ws H st E im =>
  ha τ σ ws H st _ fun xs C1 vs H1 hk s1 hl => by
    obtain ⟨F, s2, hv⟩ := EvA.out s1 hl
    have h3 := h2 xs C1 hk
    cases hv with
    | nil => cases h3
    | cons a1 r => cases r with
      | nil => cases h3
      | cons a2 r => cases r with
        | cons a3 r => simp at h3
        | nil => exact ⟨_, _, rfl, k _ _ _ hk τ _ ws H1 ⟨F, s2.hf, (s2.slots.set (fun t e => by cases e; exact ⟨_, rfl, a1⟩) i).set (fun t e => by cases e; exact ⟨_, rfl, a2⟩) j, s2.temps⟩ E im⟩
/-! instances -/
end
end T
set_option Elab.async false
set_option linter.all false
set_option maxRecDepth 100000
set_option maxHeartbeats 2000000
set_option autoImplicit false
namespace L2
open PySem PySem.Spec PyProof.Rows
end L2
namespace T
open PySem PySem.Spec PyProof.Rows L2
open PySem.W (Frag)
section
variable {B : Bs} {F F' : Hp} {Γ Γ' Γ2 : List Sl} {C C' C1 C2 C3 R : Cs} {τ : List TV} {σ : St} {ws : List V} {H H' : Hp} {x y z : TV} {c d : Ct} {dd : D}
variable {ta tb' te td ty : TE} {ca : TA} {D' : EndT} {ts tu tw tb : TS} {wi : TI} {g : TG} {t u : TT} {b b' : Bool}
theorem ss_retVG (h : Ev B te Γ C x C1) (s : C'.Sublist C1) (e : D'.rt = RetV B x C') : Ss B (tRet te) Γ C D' := ss_ret h fun H v ⟨F, h1, h2⟩ => by rw [e]; exact ⟨F, h1.sublist s, h2⟩
theorem ss_retNG (h : EvN B te Γ C c C1) (s : C'.Sublist C1) (e : D'.rt = RetN B c C') : Ss B (tRet te) Γ C D' := ss_retN h fun H v ⟨p, F, e', hB, hP, h1⟩ => by rw [e]; exact ⟨p, F, e', hB, hP, h1.sublist (s.cons₂ _)⟩
theorem os_neD {α : Type} [DatE α] [DecidableEq α] {a b : α} (hz : Dat.dep α ≤ 64) : OpS B C (rNeD B.K) (tv a) (tv b) (tv (!decide (a = b))) := fun F H v w hf hv hw Q q =>
  ⟨_, _, hf.sub.dp _ _ (Dat.dp hv), hf.sub.dp _ _ (Dat.dp hw), DatE.shp hz a, DatE.shp hz b, q _ (by
    have : PyData.eqv (Dat.enc a) (Dat.enc b) = decide (a = b) := by rw [Bool.eq_iff_iff, decide_eq_true_eq]; exact DatE.eqv a b
    rw [this]; rfl)⟩
end
end T
set_option Elab.async false
set_option linter.all false
set_option maxRecDepth 100000
set_option maxHeartbeats 2000000
set_option autoImplicit false
namespace L2
open PySem PySem.Spec PyProof.Rows
open PySem.W (Frag alike alikeAll dataLe dataLt AllAlike EachIs)
end L2
namespace T
open PySem PySem.Spec PyProof.Rows L2
open PySem.W (Frag alike alikeAll dataLe dataLt AllAlike EachIs)
/-- that a test comes out true -/
def chk (b : Bool) : Option Unit := if b = true then some () else none
theorem chk_some {b : Bool} {u : Unit} (h : chk b = some u) : b = true := by
  unfold chk at h
  split at h
  · assumption
  · cases h
end T
set_option Elab.async false
set_option linter.all false
set_option maxRecDepth 100000
set_option maxHeartbeats 2000000
set_option autoImplicit false
namespace T
open PySem PySem.Spec PyProof.Rows L2
open PySem.W (Frag)
theorem nchk {b : Bool} {u : Unit} (h : chk (!b) = some u) (e : b = true) : False := by
  have := chk_some h
  rw [e] at this
  cases this
section
variable {B : Bs} {F F' : Hp} {Γ Γ' Γ2 : List Sl} {C C' C1 C2 C3 R : Cs} {τ : List TV} {σ : St} {ws : List V} {H H' : Hp} {x y z : TV} {c d : Ct}
variable {ta tb' te td ty : TE} {ca : TA} {D' : EndT} {ts tu tw tb : TS} {wi : TI} {g : TG} {t u : TT} {b b' : Bool} {α β : Type}
/-- a value as a thing of any kind -/
theorem ev_toD [AsD α] {a : α} (h : Ev B te Γ C (tv a) C1) : Ev B te Γ C (tv (AsD.toD a)) C1 := fun τ σ ws H st Q q =>
  h τ σ ws H st _ fun v H1 s1 => by
    obtain ⟨F, s2, hv⟩ := s1.pop
    exact q v H1 (ST.push s2 (AsD.okD hv))
theorem ev_cls {p : Addr} : Ev B (tC (.ref p)) Γ C (tv (Ptr.mk p)) C := fun τ σ ws H ⟨F, st⟩ Q q => q _ H (ST.push st rfl)
end
end T
set_option Elab.async false
set_option linter.all false
set_option maxRecDepth 100000
set_option maxHeartbeats 2000000
set_option autoImplicit false
namespace T
open PySem PySem.Spec PyProof.Rows L2
open PySem.W (Frag)
/-- the law's script: a list of ints that is read -/
structure Sq where
  l : List Int
theorem sqL_mono {K : Frag} {F F' : Hp} {a : Addr} {xs : List V} (s : Same F F') (h : SqL K F a xs) : SqL K F' a xs := h.elim (fun h => .inl (rd_mono s h)) .inr
instance : Rp Sq := ⟨fun K F v x => ∃ a, v = .ref a ∧ SqL K F a (x.l.map V.int), fun s h => let ⟨a, e, h⟩ := h; ⟨a, e, sqL_mono s h⟩⟩
theorem ints_all {K : Frag} {F : Hp} : ∀ l : List Int, All2 (Rp.rp K F) (l.map V.int) l
  | [] => .nil
  | x :: l => .cons rfl (ints_all l)
section
variable {B : Bs} {F F' : Hp} {Γ Γ' Γ2 : List Sl} {C C' C1 C2 C3 R : Cs} {τ : List TV} {σ : St} {ws : List V} {H H' : Hp} {x y z : TV} {c d : Ct}
variable {te : TE} {lo hi : Option Int} {tl th : TO}
theorem cs_lenQ {s : Sq} : CbS B C (T.rLen B.K) [tv s] (tv (s.l.length : Int)) := fun F H vs hf hv Q q => by
  cases hv with
  | cons h1 h2 =>
    cases h2
    obtain ⟨a, rfl, h⟩ := h1
    exact ⟨a, _, rfl, .inl (hf.sub.sqL h), q _ (by rw [List.length_map]; rfl)⟩
theorem os_ixQ {s : Sq} {n a : Int} (ha : L2.atI s.l n = some a) : OpS B C (rIxL B.K) (tv s) (tv n) (tv a) := fun F H v w hf hv hw Q q => by
  obtain ⟨p, rfl, h⟩ := hv
  obtain rfl := hw
  refine ⟨p, _, n, .int a, rfl, rfl, hf.sub.sqL h, ?_, q _ rfl⟩
  unfold L2.atI at ha ⊢
  rw [List.length_map]
  cases e : ixN s.l.length n with
  | none => rw [e] at ha; cases ha
  | some j =>
    rw [e] at ha
    have ha' : s.l[j]? = some a := ha
    show (s.l.map V.int)[j]? = _
    rw [List.getElem?_map, ha']
    rfl
theorem evn_sliceQ {s : Sq} (h : Ev B te Γ C (tv s) C1) (h1 : EvO B tl Γ C1 lo C2) (h2 : EvO B th Γ C2 hi C3) : EvN B (tSl (rSlL B.K) te tl th) Γ C (.lst (cutL s.l lo hi)) C3 := fun τ σ ws H st Q q =>
  h τ σ ws H st _ fun v H1 s1 => h1 _ σ _ H1 s1 _ fun H2 s2 => h2 _ σ _ H2 s2 _ fun H3 s3 => by
    obtain ⟨F, s4, hv⟩ := s3.pop
    obtain ⟨a, rfl, h⟩ := hv
    refine ⟨a, s.l.map V.int, rfl, s4.hf.sub.sqL h, fun p hp => q p _ (s4.hf.free hp).2.2 (s4.hf.free hp).2.1 ⟨F, (s4.hf.cell (c := .lst (cutL s.l lo hi)) hp ⟨_, rfl, ?_⟩).1, s4.slots, s4.temps⟩⟩
    have r := ints_all (K := B.K) (F := F) s.l
    unfold cutV cutL
    rw [r.length]
    exact (r.drop _).take _
end
end T
set_option Elab.async false
set_option linter.all false
set_option maxRecDepth 100000
set_option maxHeartbeats 2000000
set_option autoImplicit false
namespace T
open PySem PySem.Spec PyProof.Rows L2
open PySem.W (Frag dataLe)
/-! a list whose inner lists are newer than F0, and things that are older -/
/-- a thing that stood already in F0 -/
structure At (F0 : Hp) (α : Type) where
  x : α
abbrev old (F0 : Hp) {α : Type} (a : α) : At F0 α := ⟨a⟩
instance instRpAt {F0 : Hp} {α : Type} [Rp α] : Rp (At F0 α) := ⟨fun K F v x => Rp.rp K F0 v x.x ∧ Same F0 F, fun s h => ⟨h.1, h.2.trans s⟩⟩
/-- a list that did not stand in F0 -/
structure Nw (F0 : Hp) (α : Type) where
  x : List α
instance instRpNw {F0 : Hp} {α : Type} [Rp α] : Rp (Nw F0 α) := ⟨fun K F v x => Rp.rp K F v x.x ∧ Same F0 F ∧ ∃ a, v = .ref a ∧ F0 a = none, fun s h => ⟨Rp.mono s h.1, h.2.1.trans s, h.2.2⟩⟩
instance {F0 : Hp} {α : Type} [AsD α] : AsD (Nw F0 α) := ⟨fun x => AsD.toD x.x, fun h => AsD.okD (And.left h)⟩
instance instDatNw {F0 : Hp} {α : Type} [Dat α] : Dat (Nw F0 α) where
  enc := fun x => Dat.enc x.x
  dp := fun h => Dat.dp h.1
  dep := Dat.dep (List α)
  hdep := fun x => Dat.hdep x.x
  al := fun x y => Dat.al x.x y.x
instance {F0 : Hp} {α : Type} [Dat α] : Srt (Nw F0 α) := ⟨fun x => Srt.srt x.x⟩
/-- anything -/
structure Any where
instance : Rp Any := ⟨fun _ _ _ _ => True, fun _ h => h⟩
section
variable {B : Bs} {F F' F0 : Hp} {Γ Γ' Γ2 : List Sl} {C C' C1 C2 C3 R : Cs} {τ : List TV} {σ : St} {ws : List V} {H H' : Hp} {x y z : TV} {c d : Ct}
variable {te ta : TE} {ca : TA} {D : EndT} {tu ts : TS} {α : Type} [Rp α]
/-- slots as they are in F0 -/
inductive AtS (F0 : Hp) : List Sl → List Sl → Prop
  | nil : AtS F0 [] []
  | none {Γ Γ' : List Sl} : AtS F0 Γ Γ' → AtS F0 (none :: Γ) (none :: Γ')
  | ptr {p : Addr} {Γ Γ' : List Sl} : AtS F0 Γ Γ' → AtS F0 (some (tv (Ptr.mk p)) :: Γ) (some (tv (Ptr.mk p)) :: Γ')
  | std {α : Type} [Rp α] {a : α} {Γ Γ' : List Sl} : AtS F0 Γ Γ' → AtS F0 (some (tv a) :: Γ) (some (tv (old F0 a)) :: Γ')
theorem AtS.ok {K : Frag} {Γ Γ' : List Sl} (r : AtS F0 Γ Γ') : ∀ {σ : St}, All2 (slOk K F0) σ Γ → All2 (slOk K F0) σ Γ' := by
  induction r with
  | nil => intro σ h; cases h; exact .nil
  | none r ih => intro σ h; cases h with | cons h1 h2 => exact .cons (fun t e => by cases e) (ih h2)
  | ptr r ih => intro σ h; cases h with | cons h1 h2 => exact .cons h1 (ih h2)
  | std r ih =>
    intro σ h
    cases h with
    | cons h1 h2 =>
      refine .cons (fun t e => ?_) (ih h2)
      cases e
      have h1' := h1 _ rfl
      obtain ⟨v, e1, e2⟩ := h1'
      exact ⟨v, e1, ⟨e2, Same.refl F0⟩⟩
/-- .. and back -/
inductive BkS (F0 : Hp) : List Sl → List Sl → Prop
  | nil : BkS F0 [] []
  | drop {s : Sl} {Γ Γ' : List Sl} : BkS F0 Γ Γ' → BkS F0 (s :: Γ) (none :: Γ')
  | ptr {p : Addr} {Γ Γ' : List Sl} : BkS F0 Γ Γ' → BkS F0 (some (tv (Ptr.mk p)) :: Γ) (some (tv (Ptr.mk p)) :: Γ')
  | std {α : Type} [Rp α] {a : α} {Γ Γ' : List Sl} : BkS F0 Γ Γ' → BkS F0 (some (tv (old F0 a)) :: Γ) (some (tv a) :: Γ')
theorem BkS.ok {K : Frag} {F F2 : Hp} (s : Same F0 F2) {Γ Γ' : List Sl} (r : BkS F0 Γ Γ') : ∀ {σ : St}, All2 (slOk K F) σ Γ → All2 (slOk K F2) σ Γ' := by
  induction r with
  | nil => intro σ h; cases h; exact .nil
  | drop r ih => intro σ h; cases h with | cons h1 h2 => exact .cons (fun t e => by cases e) (ih h2)
  | ptr r ih =>
    intro σ h
    cases h with
    | cons h1 h2 =>
      refine .cons (fun t e => ?_) (ih h2)
      cases e
      have h1' := h1 _ rfl
      obtain ⟨v, e1, e2⟩ := h1'
      exact ⟨v, e1, e2⟩
  | std r ih =>
    intro σ h
    cases h with
    | cons h1 h2 =>
      refine .cons (fun t e => ?_) (ih h2)
      cases e
      have h1' := h1 _ rfl
      obtain ⟨v, e1, e2, e3⟩ := h1'
      exact ⟨v, e1, Rp.mono s e2⟩
end
end T
set_option Elab.async false
set_option linter.all false
set_option maxRecDepth 100000
set_option maxHeartbeats 2000000
set_option autoImplicit false
namespace T
open PySem PySem.Spec PyProof.Rows L2 RZ
open PySem.W (Frag)
/-! ### list comprehensions whose element changes cells -/
def lcS {α β σ : Type} (e : σ → α → Option (β × σ)) : σ → List α → Option (List β × σ)
  | s, [] => some ([], s)
  | s, x :: xs => (e s x).bind fun r => (lcS e r.2 xs).bind fun q => some (r.1 :: q.1, q.2)
theorem lcS_snoc {α β σ : Type} {e : σ → α → Option (β × σ)} : ∀ {pre : List α} {s s1 : σ} {ys : List β} {a : α} {y : β} {s2 : σ}, lcS e s pre = some (ys, s1) → e s1 a = some (y, s2) → lcS e s (pre ++ [a]) = some (ys ++ [y], s2)
  | [], s, s1, ys, a, y, s2, h, h2 => by
    cases h
    show (e s a).bind _ = _
    rw [h2]
    rfl
  | x :: pre, s, s1, ys, a, y, s2, h, h2 => by
    obtain ⟨r, h3, h4⟩ := bind_some (show (e s x).bind _ = some (ys, s1) from h)
    obtain ⟨q, h5, h6⟩ := bind_some h4
    cases h6
    show (e s x).bind _ = _
    rw [h3]
    show (lcS e r.2 (pre ++ [a])).bind _ = _
    rw [lcS_snoc h5 h2]
    rfl
theorem lcS_at {α β σ : Type} {e : σ → α → Option (β × σ)} : ∀ {pre post : List α} {s s1 : σ} {ys zs : List β} {a : α} {s2 : σ}, lcS e s (pre ++ a :: post) = some (zs, s2) → lcS e s pre = some (ys, s1) → ∃ y s3, e s1 a = some (y, s3) ∧ ys.length < zs.length
  | [], post, s, s1, ys, zs, a, s2, h, h1 => by
    cases h1
    obtain ⟨r, h3, h4⟩ := bind_some (show (e s a).bind _ = some (zs, s2) from h)
    obtain ⟨q, h5, h6⟩ := bind_some h4
    cases h6
    exact ⟨r.1, r.2, h3, by simp⟩
  | x :: pre, post, s, s1, ys, zs, a, s2, h, h1 => by
    obtain ⟨r, h3, h4⟩ := bind_some (show (e s x).bind _ = some (zs, s2) from h)
    obtain ⟨q, h5, h6⟩ := bind_some h4
    cases h6
    obtain ⟨r', h7, h8⟩ := bind_some (show (e s x).bind _ = some (ys, s1) from h1)
    rw [h3] at h7
    cases h7
    obtain ⟨q', h9, h10⟩ := bind_some h8
    cases h10
    obtain ⟨y, s3, g1, g2⟩ := lcS_at h5 h9
    exact ⟨y, s3, g1, by simp; omega⟩
/-- its length, too -/
def lcSL {α β σ : Type} (e : σ → α → Option (β × σ)) (s : σ) (xs : List α) : Option (List β × σ) := (lcS e s xs).bind fun r => if r.1.length ≤ sizeLine then some r else none
theorem lcSL_some {α β σ : Type} {e : σ → α → Option (β × σ)} {s : σ} {xs : List α} {r : List β × σ} (h : lcSL e s xs = some r) : lcS e s xs = some r ∧ r.1.length ≤ sizeLine := by
  obtain ⟨q, h1, h2⟩ := bind_some h
  split at h2
  · cases h2
    exact ⟨h1, by assumption⟩
  · cases h2
section
variable {B : Bs} {F F' : Hp} {Γ Γ' Γ2 : List Sl} {C C' C1 C2 C3 : Cs} {τ : List TV} {σ : St} {ws : List V} {H H' : Hp} {x y z : TV} {c : Ct} {b b' : Bool}
variable {ta tc te : TE} {ca : TA} {D' : EndT} {ts tu tw tb : TS} {wi : TI} {g : TG} {t u : TT} {js vs : List Nat}
theorem evn_lcS {α β S : Type} [Rp α] [Rp β] {xs : List α} {e : S → α → Option (β × S)} {s0 : S} {r : List β × S} (hl : lcSL e s0 xs = some r) (Cf : S → Cs) (hi : EvI B wi Γ C xs C1) (c0 : C1 = Cf s0) (hj : ∀ j ∈ js, j ∈ vs)
    (hs : ∀ s a y s' (p : Addr) (acc : List β), a ∈ xs → e s a = some (y, s') → ∃ Γ2, Tg B g js (tv a) (wipeG Γ vs) Γ2 ∧ Ev B te Γ2 ((p, .lst acc) :: Cf s) (tv y) ((p, .lst acc) :: Cf s')) :
    EvN B (tLc wi g tYes te vs) Γ C (.lst r.1) (Cf r.2) := by
  obtain ⟨hl, hz⟩ := lcSL_some hl
  obtain ⟨ys, s1⟩ := r
  refine evn_lc (ys := ys) (C2 := Cf s1) (fun pre ys' C' => ∃ s, lcS e s0 pre = some (ys', s) ∧ C' = Cf s) hi hj ⟨s0, rfl, c0⟩ ?_ ?_
  · rintro pre a post ys' C' p hx ⟨s, h1, rfl⟩
    have hm : a ∈ xs := by rw [hx]; simp
    rw [hx] at hl
    obtain ⟨y, s3, g1, g2⟩ := lcS_at hl h1
    obtain ⟨Γ2, tg, he⟩ := hs s a y s3 p ys' hm g1
    have hz' : ys.length ≤ sizeLine := hz
    exact ⟨Γ2, true, tg, et_yes, fun _ => ⟨y, Cf s3, he, by omega, s3, lcS_snoc h1 g1, rfl⟩, fun z => by cases z⟩
  · rintro ys' C' ⟨s, h1, rfl⟩
    rw [hl] at h1
    cases h1
    exact ⟨rfl, rfl⟩
/-! ### tests that change cells -/
/-! ### cells that are read as things that stand -/
inductive LkS (C : Cs) : Sl → Sl → Prop
  | no {g : Sl} : LkS C g none
  | std {g : Sl} : LkS C g g
  | lst {α : Type} [Rp α] {p : Addr} {xs : List α} : (p, Ct.lst xs) ∈ C → LkS C (some (tv (Ptr.mk p))) (some (tv xs))
theorem LkS.slots (hf : HF B F C H) : ∀ {σ : St} {Γ Γ' : List Sl}, All2 (slOk B.K F) σ Γ → All2 (LkS C) Γ Γ' → All2 (slOk B.K (lockAll C F H)) σ Γ'
  | _, _, _, .nil, .nil => .nil
  | _, _, _, .cons h t, .cons k r => .cons (by
      intro t e
      cases k with
      | no => cases e
      | std => exact h.mono hf.same t e
      | lst hp =>
        cases e
        obtain ⟨v, hv, hv2⟩ := h _ rfl
        obtain ⟨o, h1, vs, ho, h2⟩ := hf.cellAt hp
        subst ho
        exact ⟨v, hv, _, vs, hv2, h1, h2⟩) (LkS.slots hf t r)
end
end T
set_option Elab.async false
set_option linter.all false
set_option maxRecDepth 100000
set_option maxHeartbeats 2000000
set_option autoImplicit false
/-! own errors made by a call with keywords: the library's rules for a call by place, shown again for any arguments -/
namespace PySem
namespace HandSPX
open Builtin Builtin.ObjectAttr PySem.Calls
section
variable {A : Around} {E : Value → Shared → Prop} {hp : Heap} {gg : Array GenState} {dd' : Drawn} {tk : Nat} {os : OsState}
variable {cn qn : Str} {cA nA : Addr} {bs mr mB : List Value} {hd : Bool} {sn : List Str} {sub : List Value} {ab : Bool} {col : Option Bool} {dd : Option Addr} {k0 k1 k2 k3 k5 : Option Value} {B nId iId : String}
/-- new's own look at the arguments -/
theorem check_new_kw {M : Model} (EF : ExcBaseFacts B nId iId mB) (same : ∀ n : String, mr.contains (.type n) = mB.contains (.type n)) {us : List Value} {kw : List (Str × Value)} {Q : Unit → Shared → Prop}
    (atC : hp.get? cA = some (excClassObj cn qn cA nA bs mr hd sn sub ab col dd k0 k1 k2 k3 k5 nId)) (fin : Q () ⟨hp, gg, dd', tk, os⟩) : wpAny M A (checkBuiltinCall nId ⟨.ref cA :: us, kw⟩) Q E ⟨hp, gg, dd', tk, os⟩ := by
  have within : (Value.ref cA :: mr).contains (.type B) = true := by rw [List.contains_cons, same, EF.hasB, Bool.or_true]
  have st := EF.noStar
  simp only [checkBuiltinCall, EF.newKind, EF.newSplit, EF.newRow]
  repeat (first | refine wpAny_loadPart_at atC ?_ | (refine wpAny_isSubtype_exc atC ?_; rw [within]) | refine wpAny_staticBase_exc atC ?_ | refine wpAny_madeBy_exc atC ?_ | simp only [bne_self_eq_false, Bool.false_eq_true, if_false] | wp_step)
  exact fin
variable {prog : Program} {w : World} {R : Result → Shared → Prop}
/-- new: the object and its args' tuple -/
theorem new_kw (EF : ExcBaseFacts B nId iId mB) (same : ∀ n : String, mr.contains (.type n) = mB.contains (.type n)) {us : List Value} {kw : List (Str × Value)}
    (atC : hp.get? cA = some (excClassObj cn qn cA nA bs mr hd sn sub ab col dd k0 k1 k2 k3 k5 nId)) (few : us.length ≤ sizeLine)
    (fin : R (.ok (.ret (.ref (hp.objs.size + 1)))) ⟨(hp.push (W.kdv_tup us)).push (excO cA hp.objs.size), gg, dd', tk, os⟩) :
    codeAny (model prog w) A (.builtin nId ⟨.ref cA :: us, kw⟩) R ⟨hp, gg, dd', tk, os⟩ := by
  have en := EF.ends
  obtain ⟨i1, i2, i3⟩ : (Value.ref cA :: mr).contains (.type B) = true ∧ (Value.ref cA :: mr).contains (.type "AttributeError") = false ∧ (Value.ref cA :: mr).contains (.type "NameError") = false := by
    refine ⟨?_, ?_, ?_⟩ <;> rw [List.contains_cons, same]
    · rw [EF.hasB, Bool.or_true]
    · rw [EF.noAttr]; rfl
    · rw [EF.noName]; rfl
  refine codeAny_builtinAt EF.entry ?_
  unfold Builtin.«BaseException.__new__»; refine wpAt_bind ?_
  show wpAt _ _ _ (stack >>= _) _ _ _
  refine wpAt_bind (wpAt_stack fun _ _ => wpAt_of_wpAny ?_)
  wp_walk
  refine wpAt_of_wpAny ?_
  rw [EF.owner]
  repeat (first | with_reducible refine wpAny_madeHere_exc EF.canon atC ?_ | with_reducible refine wpAny_loadPart_at atC ?_ | (with_reducible refine wpAny_isSubtype_exc atC ?_; first | rw [i1] | rw [i2] | rw [i3]) | wp_step)
  show R _ _
  rw [Heap.size_push]
  exact fin
/-- what type.__call__ does: new, then the __init__ at fI -/
theorem made_kw (EF : ExcBaseFacts B nId iId mB) (same : ∀ n : String, mr.contains (.type n) = mB.contains (.type n)) {us : List Value} {kw : List (Str × Value)} {fI : Addr} {Q : Fin → Shared → Prop}
    (atC : hp.get? cA = some (excClassObj cn qn cA nA bs mr hd sn sub ab col dd k0 k1 k2 k3 k5 nId)) (found : W.Looks (model prog w) hp (typeLookup (.ref cA) "__init__") (some (.ref fI)))
    (bound : ∀ self, W.Looks (model prog w) hp (bindSpecial (.ref fI) self) (.ref fI, [self])) (few : us.length ≤ sizeLine)
    (run : codeAny (model prog w) A (.call (.ref fI) ⟨.ref (hp.objs.size + 1) :: us, kw⟩) (fun r z => match r with | .ok (.ret v) => v = .none ∧ Q (.done (.ret (.ref (hp.objs.size + 1)))) z | .ok _ => False | .error e => E e z) ⟨(hp.push (W.kdv_tup us)).push (excO cA hp.objs.size), gg, dd', tk, os⟩) :
    wpAny (model prog w) A (Builtin.«type.__call__» ⟨.ref cA :: us, kw⟩) Q E ⟨hp, gg, dd', tk, os⟩ := by
  repeat (first | with_reducible refine wpAny_loadPart_at atC ?_ | with_reducible refine wpAny_madeBy_exc atC ?_ | wp_step)
  refine codeAny_call_builtin_code (Code.quiet_builtin _ EF.quiet) (check_new_kw EF same atC (new_kw EF same atC few ?_))
  show wpAny _ _ _ _ _ _
  have up : ∀ b o, hp.get? b = some o → ((hp.push (W.kdv_tup us)).push (excO cA hp.objs.size)).get? b = some o := fun b o e => Heap.get?_push_of_some _ (Heap.get?_push_of_some _ e)
  have atC' := up _ _ atC
  have here : ((hp.push (W.kdv_tup us)).push (excO cA hp.objs.size)).get? (hp.objs.size + 1) = some (excO cA hp.objs.size) := by heap_get
  have own : (Value.ref cA :: mr).contains (.ref cA) = true := by simp
  have found' := found.keeps up
  have bound' := (bound (.ref (hp.objs.size + 1))).keeps up
  unfold isInstance
  repeat (first | with_reducible refine wpAny_loadPart_at here ?_ | (with_reducible refine wpAny_isSubtype_exc atC' ?_; rw [own]) | wp_step)
  show wpAny _ _ (typeLookup (.ref cA) _) _ _ _
  refine found'.at (wpAny_holding (wpAny_bind (bound'.at (wpAny_bind (wpAny_call (codeAny_mono run fun r s' z => ?_))))))
  rcases r with e | (v | _ | _ | _) <;> first | exact z | exact z.elim | skip
  obtain ⟨rfl, z⟩ := z
  first
    | exact wpAny_pure (wpAny_pure z)
    | (wp_walk; exact z)
/-- the class called -/
theorem call_own_kw (EF : ExcBaseFacts B nId iId mB) (same : ∀ n : String, mr.contains (.type n) = mB.contains (.type n)) {us : List Value} {kw : List (Str × Value)} {fI : Addr}
    (atC : hp.get? cA = some (excClassObj cn qn cA nA bs mr hd sn sub ab col dd k0 k1 k2 k3 k5 nId)) (found : W.Looks (model prog w) hp (typeLookup (.ref cA) "__init__") (some (.ref fI)))
    (bound : ∀ self, W.Looks (model prog w) hp (bindSpecial (.ref fI) self) (.ref fI, [self])) (few : us.length ≤ sizeLine)
    (run : codeAny (model prog w) (A.under (.builtin "type.__call__" ⟨.ref cA :: us, kw⟩)) (.call (.ref fI) ⟨.ref (hp.objs.size + 1) :: us, kw⟩) (W.InitBack (hp.objs.size + 1) R) ⟨(hp.push (W.kdv_tup us)).push (excO cA hp.objs.size), gg, dd', tk, os⟩) :
    codeAny (model prog w) A (.call (.ref cA) ⟨us, kw⟩) R ⟨hp, gg, dd', tk, os⟩ := by
  have l1 := tc_lookup
  have l2 := tc_bind (.ref cA)
  have isT : (⟨hp, gg, dd', tk, os⟩ : Shared).TypeIs (.ref cA) "type" := ⟨_, atC, rfl⟩
  refine codeAny_of_tree ?_
  show wpAny _ _ (callAny (.ref cA) _) _ _ _
  repeat (any_goals (first | assumption | with_reducible refine wpAny_loadPart_at atC ?_ | wp_step))
  refine ⟨rfl, codeAny_call_builtin_at (Code.quiet_builtin _ (by decide +kernel)) entry_typeCall (wpAny_check_type_call_sub atC (made_kw EF same atC found bound few (codeAny_mono run fun r z q => ?_)))⟩
  rcases r with e | (v | _ | _ | _) <;> exact q
end
end HandSPX
end PySem
set_option Elab.async false
set_option linter.all false
set_option maxRecDepth 100000
set_option maxHeartbeats 2000000
set_option autoImplicit false
namespace FX
open PySem PySem.W PySem.Calls PyProof.Rows PySem.HandSPX
structure OwnMadeX (h h' : Heap) (e C d : Addr) (fld : Str) (v : Value) : Prop where
  keep : ∀ b o, h.get? b = some o → h'.get? b = some o
  new : h.objs.size ≤ e
  obj : ∃ t1 : Addr, h'.get? e = some { cls := .ref C, dict := some d, data := .fields #[.ref t1, .none, .none, .none, .bool false, .none] }
  dbig : h.objs.size ≤ d
  dne : d ≠ e
  ns : h'.Ns1 d (fun y => if y = fld then some v else none)
section
variable {P : Program} {w : World} {A : Around} {E : Value → Shared → Prop} {R : Result → Shared → Prop} {s : Shared} {K : Frag} {mg : Str → Option Value} {C : Addr} {cn fld tx : Str}
theorem init_runA {ag : Args} (T : Txt P K mg C cn fld tx) {fI x t0 : Addr} {v : Value} (hfI : findIn K (.ref C) "__init__" = some (some (.ref fI))) (X : K.In s.heap) {mb : Str → Option Value} (Gm : s.heap.Ns mainGlobals mg) (Gb : s.heap.Ns builtinsNs mb) (hbs : mb "super" = some (.type "super")) (hlim : s.heap.NoLimit) (hbd : ∀ (body : List Stmt) (qual : Str) (p1 p2 : Pos) (doc pm ct cdv : Value) (an : Option Addr) (cc : Addr), bindArgs (ksFn "__init__" qual (xA fld p1 p2) body (xS fld) .none .none doc pm an cdv ct cc) ag = pure [(("self" : Str), .ref x), (fld, v)]) (hx : s.heap.get? x = some (excO C t0)) (hnx : K.lookup x = none) (hroom : A.depth < recursionLimit)
    (hq : ∀ h' tk dx t1, InitEnd s.heap h' x C dx t1 fld v → R (.ok (.ret .none)) { s with heap := h', toks := tk }) :
    codeAny (model P w) A (.call (.ref fI) ag) R s := by
  obtain ⟨fI', cda, cc, oc, od, doc, pm, an, ct, osl, qual, p1, p2, a1, a2, a3, a4, a5, a6, q1, q2, q3, q4, ccl, cl, cdd, cld, vs, ccs, csl, file, tf, e1, tI, ho, hcd, hcode, hvs, hfile, hcell, hpos⟩ := T.fn
  obtain rfl : fI = fI' := by rw [hfI] at e1; injection e1 with e1; injection e1 with e1; injection e1
  obtain ⟨nm, q, N, bs, bm, sn, sub, ab, col, dd, k0, k1, k2, k3, k5, hC, hbm⟩ := T.cls
  have hcl : clsIn K C = some { name := nm, bases := bs, mro := .ref C :: bm, ns := N, qualname := q, hasDict := true, slotNames := sn, subclasses := sub, abstract := ab, collection := col, hasDel := false } := by unfold clsIn; rw [hC] <;> rfl
  have lks : (xS fld).names.lookup ("super" : Str) = some .globalImplicit := by
    have e1 : (("super" : Str) == fld) = false := by rw [beq_eq_false_iff_ne]; intro z; have := T.nss; rw [z] at this; simp at this
    simp only [xS, List.lookup, e1]
    rfl
  have lkc : (xS fld).names.lookup ("__class__" : Str) = some .free := by
    have e1 : (("__class__" : Str) == fld) = false := by rw [beq_eq_false_iff_ne]; intro z; have := T.nsc; rw [z] at this; simp at this
    simp only [xS, List.lookup, e1]
    rfl
  have lka : (xS fld).names.lookup ("self" : Str) = some .local := rfl
  have lkf : (xS fld).names.lookup fld = some .local := by
    have e1 : (fld == PySem.Str.ofString "self") = false := T.nsl
    simp only [xS, List.lookup, e1, beq_self_eq_true]
  refine ks_codeAny_call_defAt (fd := ksFn "__init__" qual (xA fld p1 p2) (xB fld tx a1 a2 a3 a4 a5 a6 q1 q2 q3 q4) (xS fld) .none .none doc pm an (.ref cda) ct cc) (binds := [("self", .ref x), (fld, v)]) hroom (X _ _ ho) rfl hlim (codeRec_of X hcd) rfl ?bind ?cell ?loc (fun h₁ hns k => ?_)
  case bind =>
    exact BindsTo.of_eq (hbd _ _ _ _ _ _ _ _ _ _)
  case cell => intro y hy; simp [xS] at hy; rcases hy with rfl | rfl | rfl | rfl <;> simp
  case loc =>
    intro y hy
    simp at hy
    rcases hy with rfl | rfl
    · exact lka
    · exact lkf
  have hn1 : h₁.Ns s.heap.objs.size (fun y => List.lookup y [(fld, v), ("self", .ref x)]) := hns
  have X₁ : K.In h₁ := X.keeps k
  have hx₁ := k _ _ hx
  have I₁ : InstAt h₁ x (excO C t0) C none := ⟨hx₁, rfl, rfl, trivial⟩
  have hself : (fun y => List.lookup y [(fld, v), (("self" : Str), Value.ref x)]) ("self" : Str) = some (.ref x) := by
    have e1 : (("self" : Str) == fld) = false := by rw [beq_eq_false_iff_ne]; intro z; have := T.nsl; rw [z] at this; simp at this
    simp [List.lookup, e1]
  have hv : (fun y => List.lookup y [(fld, v), (("self" : Str), Value.ref x)]) fld = some v := by simp [List.lookup]
  obtain ⟨oD, hD1, hD2⟩ : ∃ oD, h₁.get? C = some oD ∧ oD.data = .cls { name := nm, bases := bs, mro := .ref C :: bm, ns := N, qualname := q, hasDict := true, slotNames := sn, subclasses := sub, abstract := ab, collection := col, hasDel := false } := ⟨_, X₁ _ _ hC, rfl⟩
  refine ks_wpAt_execs_cons (ks_wpAt_Expr_any ?_)
  refine ks_wpAt_MethodCall (pl := (do return (← importBound (.Call (.Name "super" a1) [] [] a2) _).getD true)) ?_ (by
    rw [arm_eval_Call]
    refine bind_congr fun ov => bind_congr fun _ => ?_
    unfold methodCall methodCallPos
    rw [hpos]
    rfl)
  obtain ⟨hp, g, dr, tk, os⟩ := s
  refine ks_wpAt_super_base (f := fI) (cc := cda) lks lkc (by decide) rfl (X₁ _ _ ho) rfl rfl rfl (X₁ _ _ hcode) rfl hvs hfile T.top ?_
  refine ks_loadName_global rfl lks (loadGlobal_builtin (Gm.keeps k) T.ms (Gb.keeps k) hbs ⟨rfl, ?_⟩)
  refine wpAny_loadName_free rfl lkc (by rfl) ⟨_, X₁ _ _ hcell, rfl⟩ ?_
  refine wpAny_loadName_local rfl lka hn1 hself ?_
  refine ks_wpAny_isType_cls hD1 hD2 ⟨rfl, ?_⟩
  refine ks_wpAny_call_super hD1 hD2 I₁.at_ I₁.cls (fun c e => ?_) (looks_mroIn X₁ T.mro) (fun h₂ e2 k2 => ?_)
  · cases e
  have I₂ : InstAt h₂ x (excO C t0) C none := ⟨k2 _ _ hx₁, rfl, rfl, trivial⟩
  have X₂ : K.In h₂ := X₁.keeps k2
  have hal : alongIn K "__init__" ((({ name := nm, bases := bs, mro := .ref C :: bm, ns := N, qualname := q, hasDict := true, slotNames := sn, subclasses := sub, abstract := ab, collection := col, hasDel := false } : ClassData).mro.dropWhile (· != .ref C)).drop 1) = some (some (.builtin "ValueError.__init__")) := by
    have z := T.sup
    unfold ks_superIn at z
    rw [hcl] at z
    exact z
  refine kxs_getMethod kxs_ValueError (l₀ := .ref C :: bm) e2 (looks_opaque X₂ T.noq) (fun A Q E s k q => wpAny_bind ((looks_clsIn X₂ hcl) A _ E s k (wpAny_pure q))) rfl X₂ hal (I₂.type.andThen (looks_subIn X₂ T.veC)) (ks_ne X₂ I₂ hcl) (by decide) ?_
  have k3 : ∀ b o, h₂.get? b = some o → (h₂.push (kxs_mw "ValueError.__init__" x)).get? b = some o := fun b o e => Heap.get?_push_of_some _ e
  have hu : (h₂.push (kxs_mw "ValueError.__init__" x)).get? h₂.objs.size = some (kxs_mw "ValueError.__init__" x) := Heap.get?_push_at rfl rfl
  refine kxs_callWith (i := "ValueError.__init__") (x := x) (by rfl) ?_
  refine evalArgs_plain (Calls.spliced_cons (Calls.Constant_str (k := 0) (pos := a4) (Calls.spliced_nil ⟨hu, ?_⟩)))
  have X₃ : K.In (h₂.push (kxs_mw "ValueError.__init__" x)) := X₂.keeps k3
  have hx₃ := k3 _ _ I₂.at_
  -- the call of the bound __init__
  refine wpAny_call (codeAny_of_tree ?_)
  show wpAny _ _ (callAny (.ref h₂.objs.size) ⟨[_], []⟩) _ _ _
  simp only [callAny]
  refine wpAny_bind (wpAny_load hu ?_)
  simp only [kxs_mw, show (Value.type "method-wrapper" == Value.type "method" || Value.type "method-wrapper" == Value.type "builtin_function_or_method" || Value.type "method-wrapper" == Value.type "method-wrapper") = true by decide, if_true]
  refine KFB.if_so (by decide) ?_
  refine wpAny_bind (check_bound_init F.excBase_ValueError.toExcCallFacts (X₃ _ _ hC) hx₃ rfl ?_)
  refine wpAny_bind (wpAny_pure (wpAny_pure ?_))
  refine ⟨plainId_quiet F.excBase_ValueError.init.plain _, codeAny_builtin F.excBase_ValueError.initEntry ?_⟩
  refine exc_init_tree (cls := .ref C) (t0 := t0) (dv := none) (c2 := .none) (c3 := .none) (b4 := .bool false) hx₃ (one_size _) fun h₄ k4 e4 _ => ?_
  have hLx : hp.objs.size ≠ x := Nat.ne_of_gt (Heap.lt_size hx)
  have k14 : ∀ b o, b ≠ x → h₁.get? b = some o → h₄.get? b = some o := fun b o nb e => k4 b o nb (k3 _ _ (k2 _ _ e))
  have X₄ : K.In h₄ := fun a o e => k14 a o (fun z => by rw [z, hnx] at e; cases e) (X₁ a o e)
  have hn4 : h₄.Ns hp.objs.size (fun y => List.lookup y [(fld, v), ("self", .ref x)]) := hn1.at fun o e => k14 _ o hLx e
  have sz4 : hp.objs.size ≤ h₄.objs.size := by
    obtain ⟨oL, _, _, hL, _⟩ := hn4
    exact Nat.le_of_lt (Heap.lt_size hL)
  refine ks_wpAt_execs_cons (ks_wpAt_Assign_Attr ?_)
  refine wpAt_of_wpAny (wpAny_Name (wpAny_loadName_local rfl lkf hn4 hv ?_) T.nsd)
  refine wpAny_Name (wpAny_loadName_local rfl lka hn4 hself ?_) (by decide)
  refine set_plain X₄ (od := none) ⟨e4, rfl, rfl, trivial⟩ T.sa ?_
  refine exc_osa X₄ e4 hcl (show refsVE (.ref C :: bm) = true from hbm) rfl T.noN (fun h₅ tk₅ dx k5' dn dne hx₅ hn₅ => ?_)
  show PySem.wpAt _ _ _ (execs [] _) _ _ _
  refine wpAt_of_wpAny (wpAny_execs_nil ?_)
  exact hq h₅ tk₅ dx _ ⟨fun b o nb e => k5' b o nb (k14 b o nb (k b o e)), hx₅, Nat.le_trans sz4 dn, dne, hn₅⟩
theorem madeA {rest : List Value} {kw : List (Str × Value)} (T : Txt P K mg C cn fld tx) {v : Value} (X : K.In s.heap) {mb : Str → Option Value} (Gm : s.heap.Ns mainGlobals mg) (Gb : s.heap.Ns builtinsNs mb) (hbs : mb "super" = some (.type "super")) (hlim : s.heap.NoLimit) (hroom : A.depth + 1 < recursionLimit) (hrest : rest.length ≤ sizeLine) (hbd : ∀ (body : List Stmt) (qual : Str) (p1 p2 : Pos) (doc pm ct cdv : Value) (an : Option Addr) (cc x : Addr), bindArgs (ksFn "__init__" qual (xA fld p1 p2) body (xS fld) .none .none doc pm an cdv ct cc) ⟨.ref x :: rest, kw⟩ = pure [(("self" : Str), .ref x), (fld, v)])
    (hq : ∀ h' tk e d, OwnMadeX s.heap h' e C d fld v → R (.ok (.ret (.ref e))) { s with heap := h', toks := tk }) :
    codeAny (model P w) A (.call (.ref C) ⟨rest, kw⟩) R s := by
  obtain ⟨nm, q, N, bs, bm, sn, sub, ab, col, dd, k0, k1, k2, k3, k5, hC, hbm⟩ := T.cls
  obtain ⟨fI, cda, cc, oc, od, doc, pm, an, ct, osl, qual, p1, p2, a1, a2, a3, a4, a5, a6, q1, q2, q3, q4, ccl, cl, cdd, cld, vs, ccs, csl, file, tf, iC, tI, _⟩ := T.fn
  obtain ⟨hp, g, dr, tk, os⟩ := s
  have k : ∀ b o, hp.get? b = some o → ((hp.push (kdv_tup rest)).push (excO C hp.objs.size)).get? b = some o := fun b o e => Heap.get?_push_of_some _ (Heap.get?_push_of_some _ e)
  have hget : ((hp.push (kdv_tup rest)).push (excO C hp.objs.size)).get? (hp.objs.size + 1) = some (excO C hp.objs.size) := by heap_get
  have hnx : K.lookup (hp.objs.size + 1) = none := by
    cases e : K.lookup (hp.objs.size + 1) with
    | none => rfl
    | some o =>
      have z : hp.get? (hp.objs.size + 1) = some o := X _ _ e
      exact absurd (Nat.lt_of_succ_lt (Heap.lt_size z)) (Nat.lt_irrefl _)
  refine call_own_kw F.excBase_ValueError (fun X => refsVE_contains X bm hbm) (X _ _ hC) (looks_findIn X iC) (fun self => bind_fn X self tI) hrest ?_
  refine init_runA (s := ⟨(hp.push (kdv_tup rest)).push (excO C hp.objs.size), g, dr, tk, os⟩) T iC (X.keeps k) (Gm.keeps k) (Gb.keeps k) hbs (hlim.keeps k) (fun b q1 p1 p2 d1 m1 c1 c2 a1 c3 => hbd b q1 p1 p2 d1 m1 c1 c2 a1 c3 _) hget hnx ?_ fun h' tk' dx t1 ⟨k', hx, dn, dne, hns⟩ => ?_
  · show A.depth + 1 < recursionLimit
    exact hroom
  · have old : ∀ b o, hp.get? b = some o → h'.get? b = some o := fun b o e => k' b o (Nat.ne_of_lt (Nat.lt_succ_of_lt (Heap.lt_size e))) (k b o e)
    have z : hp.objs.size + 1 + 1 ≤ dx := by
      first
        | (simpa only [Heap.size_push] using dn)
        | exact dn
        | (have q := dn; rw [Heap.size_push, Heap.size_push] at q; exact q)
    exact ⟨rfl, hq h' tk' (hp.objs.size + 1) dx ⟨old, Nat.le_succ _, ⟨_, hx⟩, Nat.le_trans (Nat.le_trans (Nat.le_succ _) (Nat.le_succ _)) z, dne, hns⟩⟩
end
end FX
set_option Elab.async false
set_option linter.all false
set_option maxRecDepth 100000
set_option maxHeartbeats 2000000
set_option autoImplicit false
namespace L2
open PySem PySem.Spec PyProof.Rows
/-! ### errors as values -/
section
variable {X : Cx} {C : Addr} {cn fld tx : Str}
/-- the error's object, its dict: both laid -/
theorem err_laid {pins : List (Addr × Obj)} {σ : St} {H : Hp} {s : Shared} {h' : Heap} {tk : Nat} {e d : Addr} {v : V} {v' : Value} (I : Inv X pins σ H s) (rv : RelV v v') (M : FX.OwnMadeX s.heap h' e C d fld v') :
    Inv X pins σ (upd (upd H e (exo e C (some d))) d (.xd [(fld, v)])) { s with heap := h', toks := tk } ∧ e ≠ d ∧ H e = none ∧ H d = none := by
  obtain ⟨t1, hoe⟩ := M.obj
  have hns := M.ns
  have fe : H e = none := I.hok.fresh M.new
  have fd : H d = none := I.hok.fresh M.dbig
  obtain ⟨G, g1, g2⟩ := restrict h' fun b => decide (b ≠ d)
  have gk : ∀ b, b ≠ d → G.get? b = h'.get? b := fun b hb => g1 b (decide_eq_true hb)
  have gd : G.get? d = none := g2 d (by simp)
  have old : ∀ b o, s.heap.get? b = some o → G.get? b = some o := fun b o q => (gk b (Nat.ne_of_lt (Nat.lt_of_lt_of_le (Heap.lt_size q) M.dbig))).trans (M.keep b o q)
  have sub : ∀ b o, G.get? b = some o → h'.get? b = some o := fun b o q => by
    by_cases hb : b = d
    · rw [hb, gd] at q; cases q
    · rw [← gk b hb]; exact q
  have ge : s.heap.get? e = none := by
    cases q : s.heap.get? e with
    | none => rfl
    | some o => exact absurd (Heap.lt_size q) (Nat.not_lt.mpr M.new)
  have hne : e ≠ d := Ne.symm M.dne
  have I1 : Inv X pins σ (upd H e (exo e C (some d))) { s with heap := G, toks := tk } := I.laidN (t' := tk) old ge fe (exo_ok ((gk e hne).trans hoe))
  have I2 := I1.laidN (a := d) (h' := h') (t' := tk) (o := .xd [(fld, v)]) sub gd (by rw [upd_ne M.dne]; exact fd) ⟨_, hns, fun f => relO_one rv f⟩
  exact ⟨I2, hne, fe, fd⟩
/-- C(e) as a value -/
def tErr (C : Addr) (fld : Str) (ta : TA) : TE := fun σ H Q => ta σ H fun vs H1 => ∃ v, vs = [v] ∧ ∀ e d, e ≠ d → H1 e = none → H1 d = none → Q (.ref e) (upd (upd H1 e (exo e C (some d))) d (.xd [(fld, v)]))
theorem pe_err {a : Expr} {ta : TA} {p pos : Pos} {k : Nat} (T : FX.Txt X.prog X.K X.mg C cn fld tx) (hr : Room k X.A) (ha : PA X [a] ta) (hg : Gl X cn) (hdb : (cn == ("__debug__" : Str)) = false := by decide)
    (he : starEach (a :: []) X.env = (false, eval a X.env) :: starEach [] X.env := by rfl) (hpl : (backTo pos (starEach [] X.env)).any (·.1) = false := by rfl) :
    PE X (.Call (.Name cn p) [a] [] pos) (tErr C fld ta) := by
  refine ⟨fun pins s σ H Q I h => ?_⟩
  refine wpAny_Call_Name_kw (ld_glob I hg T.gC ?_ hdb)
  refine PySem.W.callWith_K (h₀ := X.base) I.ok.mod.kin T.kC (thn (ha.run pos pins s σ H _ I h) fun us s1 hh => ?_) he hpl
  obtain ⟨vs, H1, I1, r1, v, ev, q1⟩ := hh
  subst ev
  refine ⟨I1.kIn, ?_⟩
  cases r1 with
  | cons rv rn =>
    rename_i v' us'
    cases rn
    show wpAny _ _ (call (.ref C) [v']) _ _ _
    have hlim := I1.nolimit
    obtain ⟨mb, hb1, hb2⟩ := I1.mod.blt
    have Gm := I1.mod.glob.keeps I1.bk
    have Gb := hb1.keeps I1.bk
    have hbs : mb "super" = some (.type "super") := (hb2 "super" (by decide)).trans (by decide +kernel)
    obtain ⟨hp, g, dr, tk, os⟩ := s1
    refine wpAny_call (FX.madeA T I1.kIn Gm Gb hbs hlim (by have := hr.dp; omega) (FX.one_size v') (fun body qual p1 p2 doc pm ct cdv an cc x => T.bd body qual p1 p2 doc pm ct cdv an cc (.ref x) v') fun h' tk' e d M => ?_)
    obtain ⟨J, hne, fe, fd⟩ := err_laid (tk := tk') I1 rv M
    exact ⟨.ref e, _, J, rfl, q1 e d hne fe fd⟩
/-- C(fld = e) -/
theorem pe_errKw {kws : List Keyword} {t : TA} {p pos : Pos} {k : Nat} (T : FX.Txt X.prog X.K X.mg C cn fld tx) (hr : Room k X.A) (hkw : PK X kws t) (hg : Gl X cn)
    (bdK : ∀ (body : List Stmt) (qual : Str) (p1 p2 : Pos) (doc pm ct cdv : Value) (an : Option Addr) (cc : Addr) (x v : Value), PySem.bindArgs (PySem.W.ksFn "__init__" qual (FX.xA fld p1 p2) body (FX.xS fld) .none .none doc pm an cdv ct cc) ⟨[x], [(fld, v)]⟩ = pure [(("self" : Str), x), (fld, v)])
    (hall : (backToKw pos (keywordEach kws X.env)).all (·.1.isSome) = true := by rfl) (hks : (backToKw pos (keywordEach kws X.env)).filterMap (·.1) = [fld] := by rfl) (hdb : (cn == ("__debug__" : Str)) = false := by decide)
    (hpl : ((backTo pos (starEach [] X.env)).any (·.1) || (backToKw pos (keywordEach kws X.env)).any (·.1.isNone)) = false := by rfl) :
    PE X (.Call (.Name cn p) [] kws pos) (tErr C fld t) := by
  refine ⟨fun pins s σ H Q I h => ?_⟩
  refine wpAny_Call_Name_kw (ld_glob I hg T.gC ?_ hdb)
  refine PySem.W.callWith_KW0 (h₀ := X.base) I.ok.mod.kin T.kC hall ?_ hpl
  refine thn (hkw.run pos pins s σ H _ I h) fun ws s2 ⟨zs, H2, I2, rz, q2⟩ => ⟨I2.kIn, ?_⟩
  rw [hks]
  obtain ⟨v, ev, q1⟩ := q2
  subst ev
  obtain ⟨v', ews, rv⟩ : ∃ v', ws = [v'] ∧ RelV v v' := by
    cases rz with
    | cons rv rn => cases rn; exact ⟨_, rfl, rv⟩
  subst ews
  · show wpAny _ _ (call (.ref C) [] [(fld, v')]) _ _ _
    have hlim := I2.nolimit
    obtain ⟨mb, hb1, hb2⟩ := I2.mod.blt
    have Gm := I2.mod.glob.keeps I2.bk
    have Gb := hb1.keeps I2.bk
    have hbs : mb "super" = some (.type "super") := (hb2 "super" (by decide)).trans (by decide +kernel)
    obtain ⟨hp, g, dr, tk, os⟩ := s2
    refine wpAny_call (FX.madeA T I2.kIn Gm Gb hbs hlim (by have := hr.dp; omega) (Nat.zero_le _) (fun body qual p1 p2 doc pm ct cdv an cc x => bdK body qual p1 p2 doc pm ct cdv an cc (.ref x) v') fun h' tk' e d M => ?_)
    obtain ⟨J, hne, fe, fd⟩ := err_laid (tk := tk') I2 rv M
    exact ⟨.ref e, _, J, rfl, q1 e d hne fe fd⟩
/-! ### e.fld, e such a value -/
end
end L2
set_option Elab.async false
set_option linter.all false
set_option maxRecDepth 100000
set_option maxHeartbeats 2000000
set_option autoImplicit false
/-! isinstance of an error that is held as a value, with or without a dict -/
namespace PySem.W
open PySem PySem.Spec PySem.Calls PyProof.Rows
section
variable {prog : Program} {w : World} {A : Around} {E : Value → Shared → Prop} {s : Shared} {K : Frag} {x D : Addr} {ox : Obj} {od : Option Obj}
/-- its __class__ is its class -/
theorem err_class {Q : Option Value → Shared → Prop} (T : L2.ExcC K D) (X : K.In s.heap) (I : InstAt s.heap x ox D od) (fin : Q (some (.ref D)) { s with toks := s.toks + 1 }) : wpAny (model prog w) A (getAttr? (.ref x) "__class__") Q E s := by
  obtain ⟨cd, hcd, _⟩ := any_some T.hd
  have fnd : findObj K D od "__class__" = some (.bind (.builtin "getset_descriptor.__get__") (.builtin "object.__class__")) := by
    unfold findObj
    rw [hcd, Option.bind_some, T.ha, Option.bind_some]
    simp [T.hn, T.ht]
  obtain ⟨hp, g, d, t, os⟩ := s
  have ty := I.type (M := model prog w)
  have byOwn := looks_findIn (M := model prog w) X T.hg
  have noHook := looks_findIn (M := model prog w) X T.hk
  have look := looks_find (M := model prog w) X I fnd
  have isE : Looks (model prog w) hp (isInstance (.ref x) (.type "BaseException")) true := ty.andThen (looks_subIn X T.hs)
  have ne : (Value.builtin "BaseException.__getattribute__" == Value.builtin "object.__getattribute__") = false := by decide +kernel
  have ne' : (onTheHeap (Value.ref D) && Value.builtin "BaseException.__getattribute__" == Value.builtin "object.__getattribute__") = false := by rw [ne]; rfl
  unfold getAttr? getAttrBy? getAttrBy
  refine wpAny_bind (wpAny_mkText (wpAny_bind (wpAny_attempt (wpAny_holding (wpAny_bind (ty.at (wpAny_bind (byOwn.at ?_))))))))
  show wpAny _ _ (if (onTheHeap (Value.ref D) && Value.builtin "BaseException.__getattribute__" == Value.builtin "object.__getattribute__") = true then _ else _) _ _ _
  rw [ne', if_neg Bool.false_ne_true]
  unfold getAttrByItsOwn hookBefore; refine wpAny_bind ?_
  rw [if_pos (show onTheHeap (Value.ref D) = true from rfl)]
  refine noHook.at (wpAny_bind (wpAny_attempt (wpAny_holding ?_)))
  have cheap : (false && onTheHeap (Value.builtin "BaseException.__getattribute__")) = false := rfl
  unfold callGetattribute
  rw [cheap, if_neg Bool.false_ne_true]
  unfold boundAndCalled
  rw [PySem.F.excAttr_ValueError.ga.bind (.ref x)]
  refine wpAny_bind (wpAny_pure ?_)
  show wpAny _ _ (call (.builtin "BaseException.__getattribute__") [.ref x, .str "__class__" t]) _ _ _
  refine wpAny_call (codeAny_call_builtin PySem.F.excAttr_ValueError.ga.plain PySem.F.entry_bexc_ga (@check_slot (model prog w) _ _ ⟨hp, g, d, t + 1, os⟩ "BaseException.__getattribute__" "BaseException" "__getattribute__" (.ref x) [.str "__class__" t] [] _ (by decide +kernel) (by decide +kernel) isE (PySem.F.args_bexc_ga (.ref x) (.str "__class__" t)) ?_))
  unfold Builtin.«object.__getattribute__»; refine wpAny_bind (wpAny_of_eq (a := ((Value.ref x : Value), [Value.str "__class__" t])) (by first | rfl | (simp only [slotArgs]; rfl)) ?_)
  refine wpAny_bind (wpAny_pure (wpAny_bind (ty.at (wpAny_bind (look.at ?_)))))
  show wpAny _ _ (holding [Value.builtin "object.__class__"] (call (.builtin "getset_descriptor.__get__") [.builtin "object.__class__", .ref x, .ref D]) >>= ret) _ _ _
  refine wpAny_bind (wpAny_holding (wpAny_call (class_get (s := ⟨hp, g, d, t + 1, os⟩) (ox := ox) (od := od) X I T.hm (wpAny_pure ?_))))
  show wpAny _ _ (handedOut (.ref D)) _ _ _
  rw [handedOut_of (v := .ref D) rfl]
  first
    | exact wpAny_pure (wpAny_pure fin)
    | exact wpAny_pure fin
    | exact wpAny_pure (wpAny_bind (wpAny_pure (wpAny_pure fin)))
/-- what the library's isinstance asks of it -/
theorem err_kit (T : L2.ExcC K D) : KitX K (.ref x) (.ref D) (fun h => InstAt h x ox D od) := by
  obtain ⟨cd, hcd, _⟩ := any_some T.hd
  obtain ⟨o, ho, hcls⟩ : ∃ o, K.lookup D = some o ∧ ∃ c, o.data = .cls c := by
    unfold clsIn at hcd
    split at hcd
    · rename_i ho; exact ⟨_, ho, _, rfl⟩
    · cases hcd
  obtain ⟨c, hc⟩ := hcls
  obtain ⟨oc, odd, dat, sl⟩ := o
  dsimp only at hc
  subst hc
  refine { ty := fun _ _ _ I => I.type, it := fun _ _ X _ => ?_, ne := fun h tp dd its n sl' X htp => ?_, ca := fun X I k => err_class T X I k }
  · intro A' Q' E' s' k q
    unfold isType loadHead
    exact wpAny_bind (wpAny_loadPart (k _ _ (X _ _ ho)) (wpAny_pure q))
  · refine Bool.eq_false_iff.mpr fun q => ?_
    have e : D = tp := Value.ref.inj (beq_iff_eq.mp q)
    subst e
    have z := (X _ _ ho).symm.trans htp
    cases z
end
end PySem.W
namespace L2
open PySem PySem.Spec PyProof.Rows
/-- isinstance(e, c), e an error that is a value -/
def rIsEv (K : PySem.W.Frag) : List V → Hp → VK → Prop := fun xs H Q => ∃ (e C : Addr) (dx : Option Addr) (c : V) (u : Value) (b : Bool), xs = [.ref e, c] ∧ ClsV c u ∧ H e = some (exo e C dx) ∧ (∀ d, dx = some d → ∃ fs, H d = some (.xd fs)) ∧ ExcC K C ∧ PySem.W.kitOne K (.ref C) u = some b ∧ Q (.bl b) H
theorem call_isEv {X : Cx} : CallR X (.builtin "isinstance") (rIsEv X.K) := by
  intro pins s σ H xs us Q I r h
  obtain ⟨e, C, dx, c, u, b, rfl, k, he, hd, T, hb, q⟩ := h
  obtain ⟨u1, u2, rfl, r1, r2⟩ := vals2 r
  have e2 := k.eq r2
  subst e2
  cases (show u1 = Value.ref e from r1)
  obtain ⟨t1, ho⟩ := exo_at I.hok he
  have J : ∃ od, PySem.W.InstAt s.heap e { cls := .ref C, dict := dx, data := .fields #[.ref t1, .none, .none, .none, .bool false, .none] } C od := by
    cases dx with
    | none => exact ⟨none, ho, rfl, rfl, trivial⟩
    | some d =>
      obtain ⟨fs, hf⟩ := hd d rfl
      have hx : ObjOk X.prog X.w H s.heap d (.xd fs) := I.hok d _ hf
      obtain ⟨mA, hns, _⟩ := hx
      obtain ⟨od, hod, _⟩ := lookIn_ns hns
      exact ⟨some od, ho, rfl, rfl, hod⟩
  obtain ⟨od, J⟩ := J
  exact PySem.W.kia_one (PySem.W.err_kit T) I.kIn J hb (fun z => nomatch z) fun tk => ⟨.bl b, H, I.tok tk, rfl, q⟩
end L2
set_option Elab.async false
set_option linter.all false
set_option maxRecDepth 100000
set_option maxHeartbeats 2000000
set_option autoImplicit false
/-! lambda e: [e.fld] as a value: made, called -/
namespace LamX
open PySem PySem.Spec PyProof.Rows L2
section
variable {X : Cx} {pins : List (Addr × Obj)} {σ : L2.St} {H : Hp} {s : Shared}
/-- the lambda is made: its object is told, too -/
theorem lam_make4 {LO : Addr → Addr → HO} {c P : Addr} {q : Str} {params : Arguments} {body : Expr} {scope : Scope} {pos : Pos} {E : Value → Shared → Prop} {Q : Value → Shared → Prop} {ps : Array Value} (I : Inv X pins σ H s) (TB : TabB X.base X.mg c P) (hcode : X.env.code = .ref c) (hq : q = X.env.qual ++ "<lambda>")
    (hP : H P = some (.tbl ps)) (ht : TriplesOk ps.toList) (ha : ∀ (pos : Pos) (cv : Value), codeAmong pos ps.toList = some cv → ∃ c, cv = .ref c ∧ H c = some (CodeO c q)) (hdef : defaultsOf params X.env = ([], [])) (hfree : ∀ y ∈ scope.names, y.2 = .free → ∃ c, X.env.cells.lookup y.1 = some c)
    (hLO : ∀ (f c' : Addr) (pm ctv : Value) (h : Heap) (H2 : Hp), h.get? f = some (PySem.W.kla_obj "<lambda>" q params body scope (cloFrom X.env.cells scope.names []) pm c' ctv) → ObjOk X.prog X.w H2 h f (LO f c'))
    (h : ∀ (f c' : Addr) (H1 : Hp) (s' : Shared), Inv X pins σ (upd H1 f (LO f c')) s' → ((H1 = H ∧ codeAmong pos ps.toList = some (.ref c')) ∨ ∃ ps', TriplesOk ps'.toList ∧ (∀ (p : Pos) (cv : Value), codeAmong p ps'.toList = some cv → codeAmong p ps.toList = some cv ∨ cv = .ref c') ∧ H c' = none ∧ H1 = upd (upd H P (.tbl ps')) c' (CodeO c' q)) →
      H1 f = none → H1 c' = some (CodeO c' q) → Q (.ref f) s') :
    wpAny (model X.prog X.w) X.A (eval (.Lambda params body scope pos) X.env) Q E s := by
  subst hq
  refine PySem.W.kla_eval hdef ?_
  have bP : s.heap.BuiltinsAt X.mg P := TB.bm.keeps I.bk
  have hP' : s.heap.get? P = some { cls := .none, data := .fields ps } := I.hok P _ hP
  have nofr : ∀ f, s.heap.objs.size ≤ f → f ∉ frs X.stack := fun f hf z => by
    rcases List.mem_cons.mp (I.stkSub _ z) with e | e
    · have h1 := I.lt
      rw [← e] at h1
      exact Nat.lt_irrefl _ (Nat.lt_of_lt_of_le h1 hf)
    · exact I.nofs hf e
  cases hc : codeAmong pos ps.toList with
  | none =>
    refine PySem.W.kla_makeFunction (mg := X.mg) (c := c) (P := P) (ps := ps) (closure_ok hfree) I.ok.glob (I.mod.glob.keeps I.bk) hcode (TB.code.keeps I.bk) hP' ht hc TB.gP bP fun c' ctv h' tk hx hge hlt hrec htb => ?_
    obtain ⟨c2, oc, vs, t, e2, hoc, hd, hv⟩ := hrec
    cases e2
    have hsz : s.heap.objs.size ≤ h'.objs.size := Nat.le_trans hge (Nat.le_of_lt hlt)
    have nC : H c' = none := I.hok.fresh hge
    have I1 := inv_table (t' := tk) (more := #[rawInt pos.line, rawInt pos.col, .ref c']) (h' := h') I hP
      (fun b o hb e => hx b o hb e) htb hge ⟨oc, vs, t, hoc, hd, hv⟩
    have I2 := I1.laid (t' := tk) (a := h'.objs.size) (h' := h'.push (PySem.W.kla_obj "<lambda>" (X.env.qual ++ "<lambda>") params body scope (cloFrom X.env.cells scope.names []) ((X.mg "__name__").getD .none) c' ctv)) (o := LO h'.objs.size c') (fun b o e => Heap.get?_push_of_some _ e) (Nat.le_refl _) (hLO _ _ _ _ _ _ (Heap.get?_push_size _ rfl))
    have eL : (ps ++ #[rawInt pos.line, rawInt pos.col, .ref c']).toList = ps.toList ++ [rawInt pos.line, rawInt pos.col, .ref c'] := by simp
    refine h h'.objs.size c' _ _ I2 (.inr ⟨_, by rw [eL]; exact PySem.TriplesOk_snoc _ _ _ _ ht, fun p' cv hcv => ?_, nC, rfl⟩) ?_ upd_same
    · rw [eL] at hcv
      exact among_app _ ht hcv
    · have n1 : h'.objs.size ≠ c' := Nat.ne_of_gt hlt
      have n2 : h'.objs.size ≠ P := Nat.ne_of_gt (Nat.lt_of_lt_of_le (Heap.lt_size hP') hsz)
      rw [upd_ne n1, upd_ne n2]
      exact I.hok.fresh hsz
  | some cv =>
    obtain ⟨c', e, hco⟩ := ha pos cv hc
    subst e
    refine PySem.W.kla_makeFunctionHit (mg := X.mg) (c := c) (P := P) (ps := ps) (closure_ok hfree) I.ok.glob (I.mod.glob.keeps I.bk) hcode (TB.code.keeps I.bk) hP' ht hc bP fun ctv h' tk hx hsz => ?_
    have I1 : Inv X pins σ H { s with heap := h', toks := tk } := I.kept hx
    have I2 := I1.laid (t' := tk) (a := h'.objs.size) (h' := h'.push (PySem.W.kla_obj "<lambda>" (X.env.qual ++ "<lambda>") params body scope (cloFrom X.env.cells scope.names []) ((X.mg "__name__").getD .none) c' ctv)) (o := LO h'.objs.size c') (fun b o e => Heap.get?_push_of_some _ e) (Nat.le_refl _) (hLO _ _ _ _ _ _ (Heap.get?_push_size _ rfl))
    exact h h'.objs.size c' H _ I2 (.inl ⟨rfl, hc⟩) (I.hok.fresh hsz) hco
end
def lookB (vn fld : Str) (a1 a2 a3 : Pos) : Expr := .List [.Attribute (.Name vn a1) fld a2] a3
def lookS (vn : Str) : Scope := { kind := .function, names := [(vn, .local)], isGenerator := false, isCoroutine := false, more := [] }
/-- the function object at f -/
def LkO (q vn fld : Str) (f c' : Addr) : HO := .ext fun h => ∃ (p1 a1 a2 a3 : Pos) (pm ctv : Value), h.get? f = some (PySem.W.kla_obj "<lambda>" q (lamA vn p1) (lookB vn fld a1 a2 a3) (lookS vn) [] pm c' ctv)
theorem lkO_ok {P : Program} {w : World} {q vn fld : Str} {p1 a1 a2 a3 : Pos} {f c' : Addr} {pm ctv : Value} {h : Heap} {H : Hp} (e : h.get? f = some (PySem.W.kla_obj "<lambda>" q (lamA vn p1) (lookB vn fld a1 a2 a3) (lookS vn) [] pm c' ctv)) : ObjOk P w H h f (LkO q vn fld f c') :=
  ⟨⟨p1, a1, a2, a3, pm, ctv, e⟩, ⟨_, e⟩, fun _ _ ⟨p1, a1, a2, a3, pm, ctv, e⟩ k => ⟨p1, a1, a2, a3, pm, ctv, k _ e⟩⟩
/-- what the making leaves: the code object at c' found in the table, or new -/
def Look1 (H : Hp) (P : Addr) (q : Str) (ps : Array Value) (c' : Addr) (H2 : Hp) : Prop :=
  (H2 = H ∧ ∃ pos, codeAmong pos ps.toList = some (.ref c')) ∨ ∃ (ps' : Array Value), TriplesOk ps'.toList ∧ (∀ (p : Pos) (cv : Value), codeAmong p ps'.toList = some cv → codeAmong p ps.toList = some cv ∨ cv = .ref c') ∧ H c' = none ∧ H2 = upd (upd H P (.tbl ps')) c' (CodeO c' q)
/-- lambda vn: [vn.fld] -/
def tLook (P : Addr) (q vn fld : Str) : TE := fun σ H Q => ∃ ps, TabAt H P q ps ∧ ∀ (H2 : Hp) (f c' : Addr), Look1 H P q ps c' H2 → H2 f = none → Q (.ref f) (upd H2 f (LkO q vn fld f c'))
theorem pe_look {X : Cx} {c P : Addr} {q vn fld : Str} {p1 a1 a2 a3 pos : Pos} (TB : TabB X.base X.mg c P) (hcode : X.env.code = .ref c) (hq : q = X.env.qual ++ "<lambda>") : PE X (.Lambda (lamA vn p1) (lookB vn fld a1 a2 a3) (lookS vn) pos) (tLook P q vn fld) := by
  refine ⟨fun pins s σ H Q I h => ?_⟩
  obtain ⟨ps, ⟨hP, ht, ha⟩, hQ⟩ := h
  have noF : ∀ y ∈ (lookS vn).names, y.2 = .free → ∃ c, X.env.cells.lookup y.1 = some c := fun y hy e => by simp [lookS] at hy; subst hy; cases e
  have clo0 : cloFrom X.env.cells (lookS vn).names [] = [] := by simp [lookS, cloFrom]
  refine lam_make4 (LO := LkO q vn fld) I TB hcode hq hP ht ha rfl noF (fun f c' pm ctv h' H2 e => lkO_ok (by rw [clo0] at e; exact e)) fun f c' H1 s' I1 hl hf hc => ?_
  exact ⟨.ref f, _, I1, rfl, hQ H1 f c' (hl.imp (fun z => ⟨z.1, _, z.2⟩) fun ⟨ps', h1, h2, h3, h4⟩ => ⟨ps', h1, h2, h3, h4⟩) hf⟩
end LamX
set_option Elab.async false
set_option linter.all false
set_option maxRecDepth 100000
set_option maxHeartbeats 2000000
set_option autoImplicit false
namespace LamX
open PySem PySem.Spec PyProof.Rows L2
/-- such a lambda called with an error that has the field -/
theorem look_call {P : Program} {w : World} {A : Around} {E : Value → Shared → Prop} {s : Shared} {K : PySem.W.Frag} {vn fld q : Str} {p1 a1 a2 a3 : Pos} {f c' a C : Addr} {pm ctv u : Value} {ox od : Obj} {R : Value → Shared → Prop}
    (hf : s.heap.get? f = some (PySem.W.kla_obj "<lambda>" q (lamA vn p1) (lookB vn fld a1 a2 a3) (lookS vn) [] pm c' ctv)) (hcd : s.heap.CodeRec (.ref c') q) (hroom : A.depth < recursionLimit) (hlim : s.heap.NoLimit)
    (XK : K.In s.heap) (T : XfC K C) (hno : PySem.W.findIn K (.ref C) fld = some none) (J : ∀ h, (∀ b o, s.heap.get? b = some o → h.get? b = some o) → PySem.W.InstAt h a ox C (some od)) (hu : PySem.W.findObj K C (some od) fld = some (.value u)) (hh : PySem.W.handedIn u = true)
    (hvd : (vn == ("__debug__" : Str)) = false) (hbind : bindArgs (PySem.W.kla_fn "<lambda>" q (lamA vn p1) (lookB vn fld a1 a2 a3) (lookS vn) [] pm (.ref c') ctv) ⟨[.ref a], []⟩ = pure [(vn, .ref a)])
    (fin : ∀ (h' : Heap) (tk : Nat), (∀ b o, s.heap.get? b = some o → h'.get? b = some o) → s.heap.objs.size ≤ h'.objs.size → R (.ref h'.objs.size) { s with heap := h'.push { cls := .type "list", data := .seq #[u] }, toks := tk }) :
    wpAny (model P w) A (call (.ref f) [.ref a]) R E s := by
  have lk1 : (lookS vn).names.lookup vn = some .local := by simp [lookS, List.lookup]
  refine wpAny_call (PySem.W.kla_callFunE hroom hf rfl rfl rfl rfl hcd ?_)
  rw [hbind]
  refine wpAny_pure (wpAny_newFunctionEnv (fun y hy => by simp [lookS] at hy; subst hy; simp) (fun y hy => by simp at hy; subst hy; exact lk1) (fun h₁ hns hsb => ⟨hlim.fresh _ hsb, ?_⟩) rfl)
  show codeAny _ _ (.expr (lookB vn fld a1 a2 a3) (PySem.W.envX q (lookS vn) s.heap.objs.size f (.ref c') [])) _ _
  have hk₁ : ∀ b o, s.heap.get? b = some o → h₁.get? b = some o := fun b o e => hsb.extBut b o (Nat.ne_of_lt (Heap.lt_size e)) (Heap.get?_push_of_some _ e)
  refine PySem.W.kla_codeExpr ?_
  obtain ⟨hp, g, dr, tk, os⟩ := s
  have hv1 : (fun y => ([(vn, Value.ref a)] : List (Str × Value)).reverse.lookup y) vn = some (.ref a) := by simp [List.lookup]
  have hsz : hp.objs.size ≤ h₁.objs.size := by
    obtain ⟨oL, _, _, hL, _⟩ := hns
    exact Nat.le_of_lt (Heap.lt_size hL)
  refine wpAny_List_spliced (Calls.spliced_cons (attr_of (by rfl) (wpAny_Name (wpAny_loadName_local rfl lk1 hns hv1 ?_) hvd)))
  refine PySem.HandSPX.exc_get (XK.keeps hk₁) (J h₁ hk₁) T.ga T.gg T.exC hu hh (Calls.spliced_nil ⟨by show 1 ≤ sizeLine; rw [sizeLine_eq]; decide, ?_⟩)
  exact fin _ _ hk₁ hsz
/-- look(e): look a local name -/
def tLookC (K : PySem.W.Frag) (i : Nat) (ta : TA) : TE := fun σ H Q => ∃ (f c' : Addr) (q vn fld : Str), σ[i]? = some (some (.ref f)) ∧ H f = some (LkO q vn fld f c') ∧ (vn == ("__debug__" : Str)) = false ∧
  (∀ (p1 a1 a2 a3 : Pos) (pm ctv cd a : Value), bindArgs (PySem.W.kla_fn "<lambda>" q (lamA vn p1) (lookB vn fld a1 a2 a3) (lookS vn) [] pm cd ctv) ⟨[a], []⟩ = pure [(vn, a)]) ∧
  ta σ H fun vs H1 => ∃ (e C d c2 : Addr) (fs : List (Str × V)) (v : V), vs = [.ref e] ∧ H1 f = some (LkO q vn fld f c2) ∧ H1 c2 = some (CodeO c2 q) ∧ H1 e = some (exo e C (some d)) ∧ H1 d = some (.xd fs) ∧ fs.lookup fld = some v ∧ XfC K C ∧ PySem.W.findIn K (.ref C) fld = some none ∧ ∀ l, H1 l = none → Q (.ref l) (upd H1 l (.lst [v]))
theorem pe_lookC {X : Cx} {i k : Nat} {x : Str} {p pos : Pos} {e : Expr} {ta : TA} (hr : Room k X.A) (hN : X.N[i]? = some x) (hv : Vis X.env.scope x) (ha : PA X [e] ta)
    (hdb : (x == ("__debug__" : Str)) = false := by decide) (hcd : (x == ("__classdict__" : Str)) = false := by decide)
    (he : starEach [e] X.env = (false, eval e X.env) :: starEach [] X.env := by rfl) (hpl : (backTo pos (starEach [] X.env)).any (·.1) = false := by rfl) :
    PE X (.Call (.Name x p) [e] [] pos) (tLookC X.K i ta) := by
  refine ⟨fun pins s σ H Q I h => ?_⟩
  obtain ⟨f, c', q, vn, fld, hs, hF, hvd, hbind, ht⟩ := h
  refine wpAny_Call_Name_kw (thn ((pe_var (pos := p) hN hv hdb hcd).run pins s σ H (fun v H1 => v = .ref f ∧ H1 = H) I ⟨.ref f, hs, rfl, rfl⟩) fun u s1 ⟨v, H1, I1, r1, q1⟩ => ?_)
  obtain ⟨rfl, rfl⟩ := q1
  cases r1
  have fn1 : PySem.W.FnAt f s1.heap := by
    obtain ⟨⟨p1, a1, a2, a3, pm, ctv, e0⟩, _⟩ := I1.hok f _ hF
    exact ⟨_, _, _, _, e0⟩
  refine PySem.W.callWith_F fn1 (thn (ha.run pos pins s1 σ _ _ I1 ht) fun us s2 ⟨vs, H2, I2, r, e, C, d, c2, fs, v, ev, hF2, hC2, hE, hD, hl, T, hno, q2⟩ => ?_) he hpl
  subst ev
  obtain ⟨⟨p1, a1, a2, a3, pm, ctv, e0⟩, _⟩ := I2.hok f _ hF2
  refine ⟨⟨_, _, _, _, e0⟩, ?_⟩
  obtain ⟨u', eu, ru⟩ : ∃ u', us = [u'] ∧ u' = Value.ref e := by
    cases r with
    | cons r1 r2 => cases r2; exact ⟨_, rfl, r1⟩
  subst eu ru
  obtain ⟨t1, ho⟩ := exo_at I2.hok hE
  have hx : ObjOk X.prog X.w H2 s2.heap d (.xd fs) := I2.hok d _ hD
  obtain ⟨mA, hns, hr'⟩ := hx
  obtain ⟨od, hod, hlk⟩ := lookIn_ns hns
  obtain ⟨u', hu, ru⟩ := RelO.some_of (v := v) (o := mA fld) (by rw [← hl]; exact hr' fld)
  have hrec : s2.heap.CodeRec (.ref c2) q := by
    obtain ⟨⟨oc, vs, t, e1, e2, e3⟩, _⟩ := I2.hok c2 _ hC2
    exact ⟨c2, oc, vs, t, rfl, e1, e2, e3⟩
  refine look_call (s := s2) (K := X.K) (C := C) (a := e) (u := u') (od := od) e0 hrec hr.depth I2.nolimit I2.kIn T hno (fun h k => ⟨k _ _ ho, rfl, rfl, k _ _ hod⟩) (PySem.W.findObj_own T.hdC hno rfl (by rw [hlk, hu])) (handed_of ru) hvd (hbind _ _ _ _ _ _ _ _) fun h' tk kp hz => ?_
  refine ⟨.ref h'.objs.size, _, I2.laid (t' := tk) (h' := h'.push { cls := .type "list", data := .seq #[u'] }) (o := .lst [v]) (fun b o e => Heap.get?_push_of_some _ (kp b o e)) hz ⟨by show 1 ≤ sizeLine; rw [sizeLine_eq]; decide, [u'], _, .cons ru .nil, Heap.get?_push_size _ rfl⟩, rfl, q2 _ (I2.hok.fresh hz)⟩
end LamX
set_option Elab.async false
set_option linter.all false
set_option maxRecDepth 100000
set_option maxHeartbeats 2000000
set_option autoImplicit false
namespace T
open PySem PySem.Spec PyProof.Rows L2 LamX
open PySem.W (Frag)
/-- an error that is a value: its class, its fields with the very objects (none: no dict) -/
structure EV where
  C : Addr
  fs : List (Str × Vid D)
def EvFld (K : Frag) (F : Hp) (p : Str × V) (q : Str × Vid D) : Prop := p.1 = q.1 ∧ Rp.rp K F p.2 q.2
theorem EvFld.mono {K : Frag} {F F' : Hp} {p : Str × V} {q : Str × Vid D} (s : Same F F') (h : EvFld K F p q) : EvFld K F' p q := ⟨h.1, Rp.mono s h.2⟩
instance : Rp EV := ⟨fun K F v x => ∃ (e : Addr) (dx : Option Addr), v = .ref e ∧ F e = some (exo e x.C dx) ∧ (dx = none ∧ x.fs = [] ∨ ∃ d vs, dx = some d ∧ F d = some (.xd vs) ∧ All2 (EvFld K F) vs x.fs),
  fun s ⟨e, dx, h1, h2, h3⟩ => ⟨e, dx, h1, s _ _ h2, h3.imp id fun ⟨d, vs, e1, e2, e3⟩ => ⟨d, vs, e1, s _ _ e2, e3.mono fun _ _ q => q.mono s⟩⟩⟩
theorem evFld_lookup {K : Frag} {F : Hp} {f : Str} {x : Vid D} : ∀ {vs : List (Str × V)} {fs : List (Str × Vid D)}, All2 (EvFld K F) vs fs → fs.lookup f = some x → ∃ v, vs.lookup f = some v ∧ Rp.rp K F v x
  | _, _, .nil, h => by simp at h
  | p :: vs, q :: fs, .cons h t, e => by
    obtain ⟨pn, pv⟩ := p
    obtain ⟨qn, qv⟩ := q
    obtain ⟨h1, h2⟩ := h
    dsimp only at h1 h2
    subst h1
    rw [List.lookup_cons] at e ⊢
    cases hb : f == pn with
    | true =>
      rw [hb] at e
      cases e
      exact ⟨pv, rfl, h2⟩
    | false =>
      rw [hb] at e
      exact evFld_lookup t e
section
variable {B : Bs} {F F' : Hp} {Γ Γ' Γ2 : List Sl} {C C' C1 C2 C3 : Cs} {τ : List TV} {σ : St} {ws : List V} {H H' : Hp} {x y z : TV} {c : Ct} {b b' : Bool}
variable {ta tc te : TE} {ca : TA} {D' : EndT} {ts tu tw tb : TS} {wi : TI} {g : TG} {t u : TT} {js vs : List Nat}
/-- a statement target = value, the target of several names -/
theorem ss_setG {x : TV} (h : Ev B te Γ C x C1) (tg : Tg B g js x Γ Γ2) (k : Ss B tu Γ2 C1 D') : Ss B (tSeq (tAsg te g) tu) Γ C D' := fun τ σ ws H st E im =>
  h τ σ ws H st _ fun v H1 s1 => by
    obtain ⟨F, s2, hv⟩ := s1.pop
    exact tg F C1 σ v H1 s2.hf s2.slots hv _ fun σ' hs _ _ => k τ σ' ws H1 ⟨F, s2.hf, hs, s2.temps⟩ E im
/-- C(x), C(fld = x) -/
theorem ev_err {v : Vid D} {Cc : Addr} {fld : Str} (ha : EvA B ca Γ C [tv v] C1) : Ev B (tErr Cc fld ca) Γ C (tv (EV.mk Cc [(fld, v)])) C1 := fun τ σ ws H st Q q =>
  ha τ σ ws H st _ fun vs H1 s1 hl => by
    obtain ⟨F, s2, hv⟩ := EvA.out s1 hl
    cases hv with
    | @cons u _ _ _ h1 h2 =>
      cases h2
      refine ⟨u, rfl, fun e d hne he hd => ?_⟩
      obtain ⟨hf1, sF1, sH1⟩ := s2.hf.laid (o := exo e Cc (some d)) he
      obtain ⟨hf2, sF2, sH2⟩ := hf1.laid (p := d) (o := .xd [(fld, u)]) (by rw [upd_ne (Ne.symm hne)]; exact hd)
      refine q _ _ (ST.push (s2.to (sF1.trans sF2) hf2) ⟨e, some d, rfl, sF2 _ _ upd_same, .inr ⟨d, _, rfl, upd_same, .cons ⟨rfl, Rp.mono (sF1.trans sF2) h1⟩ .nil⟩⟩)
/-- isinstance(e, a class) -/
theorem cs_isEv {e : EV} {cv : V} {u : Value} {b : Bool} {cl : TV} (hcl : ∀ K F v, cl.ok K F v → v = cv) (k : ClsV cv u) (T : ExcC B.K e.C) (hk : PySem.W.kitOne B.K (.ref e.C) u = some b) : CbS B C (rIsEv B.K) [tv e, cl] (tv b) := fun F H vs hf hv Q q => by
  cases hv with
  | cons h1 hv => cases hv with
    | cons h2 hv =>
      cases hv
      obtain ⟨a, dx, rfl, ea, hd⟩ := h1
      obtain rfl := hcl _ _ _ h2
      refine ⟨a, e.C, dx, _, u, b, rfl, k, hf.sub _ _ ea, fun d hdx => ?_, T, hk, q _ rfl⟩
      rcases hd with ⟨h0, _⟩ | ⟨d', us, h0, ed, _⟩
      · rw [hdx] at h0; cases h0
      · rw [hdx] at h0
        cases h0
        exact ⟨us, hf.sub _ _ ed⟩
end
end T
set_option Elab.async false
set_option linter.all false
set_option maxRecDepth 100000
set_option maxHeartbeats 2000000
set_option autoImplicit false
/-! own errors without a field, with two -/
namespace FX
open PySem PySem.W PySem.Calls PyProof.Rows PySem.HandSPX
def xA0 (p1 p2 p3 : Pos) : Arguments := { posonlyargs := [], args := [{ arg := "self", annotation := none, pos := p1 }], vararg := none, kwonlyargs := [], kw_defaults := [], kwarg := none, defaults := [] }
def xB0 (tx : Str) (a1 a2 a3 a4 a5 a6 q1 q2 q3 q4 q5 q6 q7 q8 : Pos) : List Stmt :=
  [.Expr (.Call (.Attribute (.Call (.Name "super" a1) [] [] a2) "__init__" a3) [.Constant (.str tx) 0 a4] [] a5) a6]
def xS0 : Scope := { kind := .function, names := [(PySem.Str.ofString "self", .local), (PySem.Str.ofString "__class__", .free), (PySem.Str.ofString "super", .globalImplicit)], isGenerator := false, isCoroutine := false, more := [] }
structure Txt0 (P : Program) (K : Frag) (mg : Str → Option Value) (C : Addr) (cn tx : Str) : Prop where
  cls : ∃ nm q N bs bm sn sub ab col dd k0 k1 k2 k3 k5, K.lookup C = some (excClassObj nm q C N bs bm true sn sub ab col dd k0 k1 k2 k3 k5 "ValueError.__new__") ∧ refsVE bm = true
  gC : mg cn = some (.ref C)
  sa : findIn K (.ref C) "__setattr__" = some (some (.builtin "object.__setattr__"))
  ga : findIn K (.ref C) "__getattribute__" = some (some (.builtin "BaseException.__getattribute__"))
  gg : findIn K (.ref C) "__getattr__" = some none
  kC : keepIn K (.ref C) = true
  exC : subIn K (.ref C) (.type "BaseException") = some true
  veC : subIn K (.ref C) (.type "ValueError") = some true
  tyC : typeIn K (.ref C) = some (.type "type")
  hdC : hasDictIn K C = true
  mro : mroIn K C (.ref C) = some true
  sup : ks_superIn K C C "__init__" = some (some (.builtin "ValueError.__init__"))
  ms : mg "super" = none
  noq : nsIn K cStatics "thirdparty.any" = some none
  top : (P.main.scope.names.lookup ("super" : Str)).isSome = false
  fn : ∃ (fI cda cc : Addr) (oc : Value) (od : Option Addr) (doc pm : Value) (an : Option Addr) (ct : Value) (osl : Array (Option Value)) (qual : Str) (p1 p2 p3 a1 a2 a3 a4 a5 a6 q1 q2 q3 q4 q5 q6 q7 q8 : Pos) (ccl cl : Value) (cdd cld : Option Addr) (vs : Array Value) (ccs csl : Array (Option Value)) (file : Str) (tf : Tok),
    findIn K (.ref C) "__init__" = some (some (.ref fI)) ∧ typeIn K (.ref fI) = some (.type "function") ∧
    K.lookup fI = some ⟨oc, od, .func (ksFn "__init__" qual (xA0 p1 p2 p3) (xB0 tx a1 a2 a3 a4 a5 a6 q1 q2 q3 q4 q5 q6 q7 q8) xS0 .none .none doc pm an (.ref cda) ct cc), osl⟩ ∧ codeIn K (.ref cda) qual = true ∧
    K.lookup cda = some ⟨ccl, cdd, .fields vs, ccs⟩ ∧ vs[2]? = some (.str file tf) ∧ ((P.main.file : Str) == file) = true ∧ K.lookup cc = some ⟨cl, cld, .cell (some (.ref C)), csl⟩ ∧ (a3.endLine == a5.line) = true
structure OwnMade0 (h h' : Heap) (e C : Addr) : Prop where
  keep : ∀ b o, h.get? b = some o → h'.get? b = some o
  new : h.objs.size ≤ e
  obj : ∃ t1 : Addr, h'.get? e = some { cls := .ref C, dict := none, data := .fields #[.ref t1, .none, .none, .none, .bool false, .none] }
structure InitEnd0 (h h' : Heap) (x C t1 : Addr) : Prop where
  keep : ∀ b o, b ≠ x → h.get? b = some o → h'.get? b = some o
  obj : h'.get? x = some { cls := .ref C, dict := none, data := .fields #[.ref t1, .none, .none, .none, .bool false, .none] }
section
variable {P : Program} {w : World} {A : Around} {E : Value → Shared → Prop} {R : Result → Shared → Prop} {s : Shared} {K : Frag} {mg : Str → Option Value} {C : Addr} {cn tx : Str}
theorem init_run0 {ag : Args} (T : Txt0 P K mg C cn tx) {fI x t0 : Addr}  (hfI : findIn K (.ref C) "__init__" = some (some (.ref fI))) (X : K.In s.heap) {mb : Str → Option Value} (Gm : s.heap.Ns mainGlobals mg) (Gb : s.heap.Ns builtinsNs mb) (hbs : mb "super" = some (.type "super")) (hlim : s.heap.NoLimit) (hbd : ∀ (body : List Stmt) (qual : Str) (p1 p2 p3 : Pos) (doc pm ct cdv : Value) (an : Option Addr) (cc : Addr), bindArgs (ksFn "__init__" qual (xA0 p1 p2 p3) body xS0 .none .none doc pm an cdv ct cc) ag = pure [(("self" : Str), .ref x)]) (hx : s.heap.get? x = some (excO C t0)) (hnx : K.lookup x = none) (hroom : A.depth < recursionLimit)
    (hq : ∀ h' tk t1, InitEnd0 s.heap h' x C t1 → R (.ok (.ret .none)) { s with heap := h', toks := tk }) :
    codeAny (model P w) A (.call (.ref fI) ag) R s := by
  obtain ⟨fI', cda, cc, oc, od, doc, pm, an, ct, osl, qual, p1, p2, p3, a1, a2, a3, a4, a5, a6, q1, q2, q3, q4, q5, q6, q7, q8, ccl, cl, cdd, cld, vs, ccs, csl, file, tf, e1, tI, ho, hcd, hcode, hvs, hfile, hcell, hpos⟩ := T.fn
  obtain rfl : fI = fI' := by rw [hfI] at e1; injection e1 with e1; injection e1 with e1; injection e1
  obtain ⟨nm, q, N, bs, bm, sn, sub, ab, col, dd, k0, k1, k2, k3, k5, hC, hbm⟩ := T.cls
  have hcl : clsIn K C = some { name := nm, bases := bs, mro := .ref C :: bm, ns := N, qualname := q, hasDict := true, slotNames := sn, subclasses := sub, abstract := ab, collection := col, hasDel := false } := by unfold clsIn; rw [hC] <;> rfl
  have lks : xS0.names.lookup ("super" : Str) = some .globalImplicit := by decide +kernel
  have lkc : xS0.names.lookup ("__class__" : Str) = some .free := by decide +kernel
  have lka : xS0.names.lookup ("self" : Str) = some .local := by decide +kernel
  refine ks_codeAny_call_defAt (fd := ksFn "__init__" qual (xA0 p1 p2 p3) (xB0 tx a1 a2 a3 a4 a5 a6 q1 q2 q3 q4 q5 q6 q7 q8) xS0 .none .none doc pm an (.ref cda) ct cc) (binds := [("self", .ref x)]) hroom (X _ _ ho) rfl hlim (codeRec_of X hcd) rfl ?bind ?cell ?loc (fun h₁ hns k => ?_)
  case bind =>
    exact BindsTo.of_eq (hbd _ _ _ _ _ _ _ _ _ _ _)
  case cell => intro y hy; simp [xS0] at hy; rcases hy with rfl | rfl | rfl <;> simp
  case loc =>
    intro y hy
    simp at hy
    subst hy
    exact lka
  have hn1 : h₁.Ns s.heap.objs.size (fun y => List.lookup y [(("self" : Str), Value.ref x)]) := hns
  have X₁ : K.In h₁ := X.keeps k
  have hx₁ := k _ _ hx
  have I₁ : InstAt h₁ x (excO C t0) C none := ⟨hx₁, rfl, rfl, trivial⟩
  have hself : (fun y => List.lookup y [(("self" : Str), Value.ref x)]) ("self" : Str) = some (.ref x) := rfl
  obtain ⟨oD, hD1, hD2⟩ : ∃ oD, h₁.get? C = some oD ∧ oD.data = .cls { name := nm, bases := bs, mro := .ref C :: bm, ns := N, qualname := q, hasDict := true, slotNames := sn, subclasses := sub, abstract := ab, collection := col, hasDel := false } := ⟨_, X₁ _ _ hC, rfl⟩
  refine ks_wpAt_execs_cons (ks_wpAt_Expr_any ?_)
  refine ks_wpAt_MethodCall (pl := (do return (← importBound (.Call (.Name "super" a1) [] [] a2) _).getD true)) ?_ (by
    rw [arm_eval_Call]
    refine bind_congr fun ov => bind_congr fun _ => ?_
    unfold methodCall methodCallPos
    rw [hpos]
    rfl)
  obtain ⟨hp, g, dr, tk, os⟩ := s
  refine ks_wpAt_super_base (f := fI) (cc := cda) lks lkc (by decide) rfl (X₁ _ _ ho) rfl rfl rfl (X₁ _ _ hcode) rfl hvs hfile T.top ?_
  refine ks_loadName_global rfl lks (loadGlobal_builtin (Gm.keeps k) T.ms (Gb.keeps k) hbs ⟨rfl, ?_⟩)
  refine wpAny_loadName_free rfl lkc (by rfl) ⟨_, X₁ _ _ hcell, rfl⟩ ?_
  refine wpAny_loadName_local rfl lka hn1 hself ?_
  refine ks_wpAny_isType_cls hD1 hD2 ⟨rfl, ?_⟩
  refine ks_wpAny_call_super hD1 hD2 I₁.at_ I₁.cls (fun c e => ?_) (looks_mroIn X₁ T.mro) (fun h₂ e2 k2 => ?_)
  · cases e
  have I₂ : InstAt h₂ x (excO C t0) C none := ⟨k2 _ _ hx₁, rfl, rfl, trivial⟩
  have X₂ : K.In h₂ := X₁.keeps k2
  have hal : alongIn K "__init__" ((({ name := nm, bases := bs, mro := .ref C :: bm, ns := N, qualname := q, hasDict := true, slotNames := sn, subclasses := sub, abstract := ab, collection := col, hasDel := false } : ClassData).mro.dropWhile (· != .ref C)).drop 1) = some (some (.builtin "ValueError.__init__")) := by
    have z := T.sup
    unfold ks_superIn at z
    rw [hcl] at z
    exact z
  refine kxs_getMethod kxs_ValueError (l₀ := .ref C :: bm) e2 (looks_opaque X₂ T.noq) (fun A Q E s k q => wpAny_bind ((looks_clsIn X₂ hcl) A _ E s k (wpAny_pure q))) rfl X₂ hal (I₂.type.andThen (looks_subIn X₂ T.veC)) (ks_ne X₂ I₂ hcl) (by decide) ?_
  have k3 : ∀ b o, h₂.get? b = some o → (h₂.push (kxs_mw "ValueError.__init__" x)).get? b = some o := fun b o e => Heap.get?_push_of_some _ e
  have hu : (h₂.push (kxs_mw "ValueError.__init__" x)).get? h₂.objs.size = some (kxs_mw "ValueError.__init__" x) := Heap.get?_push_at rfl rfl
  refine kxs_callWith (i := "ValueError.__init__") (x := x) (by rfl) ?_
  refine evalArgs_plain (Calls.spliced_cons (Calls.Constant_str (k := 0) (pos := a4) (Calls.spliced_nil ⟨hu, ?_⟩)))
  have X₃ : K.In (h₂.push (kxs_mw "ValueError.__init__" x)) := X₂.keeps k3
  have hx₃ := k3 _ _ I₂.at_
  -- the call of the bound __init__
  refine wpAny_call (codeAny_of_tree ?_)
  show wpAny _ _ (callAny (.ref h₂.objs.size) ⟨[_], []⟩) _ _ _
  simp only [callAny]
  refine wpAny_bind (wpAny_load hu ?_)
  simp only [kxs_mw, show (Value.type "method-wrapper" == Value.type "method" || Value.type "method-wrapper" == Value.type "builtin_function_or_method" || Value.type "method-wrapper" == Value.type "method-wrapper") = true by decide, if_true]
  refine KFB.if_so (by decide) ?_
  refine wpAny_bind (check_bound_init F.excBase_ValueError.toExcCallFacts (X₃ _ _ hC) hx₃ rfl ?_)
  refine wpAny_bind (wpAny_pure (wpAny_pure ?_))
  refine ⟨plainId_quiet F.excBase_ValueError.init.plain _, codeAny_builtin F.excBase_ValueError.initEntry ?_⟩
  refine exc_init_tree (cls := .ref C) (t0 := t0) (dv := none) (c2 := .none) (c3 := .none) (b4 := .bool false) hx₃ (one_size _) fun h₄ k4 e4 _ => ?_
  have hLx : hp.objs.size ≠ x := Nat.ne_of_gt (Heap.lt_size hx)
  have k14 : ∀ b o, b ≠ x → h₁.get? b = some o → h₄.get? b = some o := fun b o nb e => k4 b o nb (k3 _ _ (k2 _ _ e))
  have X₄ : K.In h₄ := fun a o e => k14 a o (fun z => by rw [z, hnx] at e; cases e) (X₁ a o e)
  have hn4 : h₄.Ns hp.objs.size (fun y => List.lookup y [(("self" : Str), Value.ref x)]) := hn1.at fun o e => k14 _ o hLx e
  have sz4 : hp.objs.size ≤ h₄.objs.size := by
    obtain ⟨oL, _, _, hL, _⟩ := hn4
    exact Nat.le_of_lt (Heap.lt_size hL)
  show PySem.wpAt _ _ _ (execs [] _) _ _ _
  refine wpAt_of_wpAny (wpAny_execs_nil ?_)
  exact hq h₄ _ _ ⟨fun b o nb e => k14 b o nb (k b o e), e4⟩
theorem made0 {rest : List Value} {kw : List (Str × Value)} (T : Txt0 P K mg C cn tx)  (X : K.In s.heap) {mb : Str → Option Value} (Gm : s.heap.Ns mainGlobals mg) (Gb : s.heap.Ns builtinsNs mb) (hbs : mb "super" = some (.type "super")) (hlim : s.heap.NoLimit) (hroom : A.depth + 1 < recursionLimit) (hrest : rest.length ≤ sizeLine) (hbd : ∀ (body : List Stmt) (qual : Str) (p1 p2 p3 : Pos) (doc pm ct cdv : Value) (an : Option Addr) (cc x : Addr), bindArgs (ksFn "__init__" qual (xA0 p1 p2 p3) body xS0 .none .none doc pm an cdv ct cc) ⟨.ref x :: rest, kw⟩ = pure [(("self" : Str), .ref x)])
    (hq : ∀ h' tk e, OwnMade0 s.heap h' e C → R (.ok (.ret (.ref e))) { s with heap := h', toks := tk }) :
    codeAny (model P w) A (.call (.ref C) ⟨rest, kw⟩) R s := by
  obtain ⟨nm, q, N, bs, bm, sn, sub, ab, col, dd, k0, k1, k2, k3, k5, hC, hbm⟩ := T.cls
  obtain ⟨fI, cda, cc, oc, od, doc, pm, an, ct, osl, qual, p1, p2, p3, a1, a2, a3, a4, a5, a6, q1, q2, q3, q4, q5, q6, q7, q8, ccl, cl, cdd, cld, vs, ccs, csl, file, tf, iC, tI, _⟩ := T.fn
  obtain ⟨hp, g, dr, tk, os⟩ := s
  have k : ∀ b o, hp.get? b = some o → ((hp.push (kdv_tup rest)).push (excO C hp.objs.size)).get? b = some o := fun b o e => Heap.get?_push_of_some _ (Heap.get?_push_of_some _ e)
  have hget : ((hp.push (kdv_tup rest)).push (excO C hp.objs.size)).get? (hp.objs.size + 1) = some (excO C hp.objs.size) := by heap_get
  have hnx : K.lookup (hp.objs.size + 1) = none := by
    cases e : K.lookup (hp.objs.size + 1) with
    | none => rfl
    | some o =>
      have z : hp.get? (hp.objs.size + 1) = some o := X _ _ e
      exact absurd (Nat.lt_of_succ_lt (Heap.lt_size z)) (Nat.lt_irrefl _)
  refine call_own_kw F.excBase_ValueError (fun X => refsVE_contains X bm hbm) (X _ _ hC) (looks_findIn X iC) (fun self => bind_fn X self tI) hrest ?_
  refine init_run0 (s := ⟨(hp.push (kdv_tup rest)).push (excO C hp.objs.size), g, dr, tk, os⟩) T iC (X.keeps k) (Gm.keeps k) (Gb.keeps k) hbs (hlim.keeps k) (fun b q1 p1 p2 p3 d1 m1 c1 c2 a1 c3 => hbd b q1 p1 p2 p3 d1 m1 c1 c2 a1 c3 _) hget hnx ?_ fun h' tk' t1 ⟨k', hx⟩ => ?_
  · show A.depth + 1 < recursionLimit
    exact hroom
  · have old : ∀ b o, hp.get? b = some o → h'.get? b = some o := fun b o e => k' b o (Nat.ne_of_lt (Nat.lt_succ_of_lt (Heap.lt_size e))) (k b o e)
    exact ⟨rfl, hq h' tk' (hp.objs.size + 1) ⟨old, Nat.le_succ _, ⟨_, hx⟩⟩⟩
end
def xA2 (p1 p2 p3 : Pos) : Arguments := { posonlyargs := [], args := [{ arg := "self", annotation := none, pos := p1 }, { arg := "text", annotation := none, pos := p2 }, { arg := "line", annotation := none, pos := p3 }], vararg := none, kwonlyargs := [], kw_defaults := [], kwarg := none, defaults := [] }
def xB2 (tx : Str) (a1 a2 a3 a4 a5 a6 q1 q2 q3 q4 q5 q6 q7 q8 : Pos) : List Stmt :=
  [.Expr (.Call (.Attribute (.Call (.Name "super" a1) [] [] a2) "__init__" a3) [.Constant (.str tx) 0 a4] [] a5) a6, .Assign [.Attribute (.Name "self" q1) "text" q2] (.Name "text" q3) q4, .Assign [.Attribute (.Name "self" q5) "line" q6] (.Name "line" q7) q8]
def xS2 : Scope := { kind := .function, names := [(PySem.Str.ofString "self", .local), (PySem.Str.ofString "text", .local), (PySem.Str.ofString "line", .local), (PySem.Str.ofString "__class__", .free), (PySem.Str.ofString "super", .globalImplicit)], isGenerator := false, isCoroutine := false, more := [] }
structure Txt2 (P : Program) (K : Frag) (mg : Str → Option Value) (C : Addr) (cn tx : Str) : Prop where
  cls : ∃ nm q N bs bm sn sub ab col dd k0 k1 k2 k3 k5, K.lookup C = some (excClassObj nm q C N bs bm true sn sub ab col dd k0 k1 k2 k3 k5 "ValueError.__new__") ∧ refsVE bm = true
  gC : mg cn = some (.ref C)
  sa : findIn K (.ref C) "__setattr__" = some (some (.builtin "object.__setattr__"))
  ga : findIn K (.ref C) "__getattribute__" = some (some (.builtin "BaseException.__getattribute__"))
  gg : findIn K (.ref C) "__getattr__" = some none
  no_text : findIn K (.ref C) "text" = some none
  no_line : findIn K (.ref C) "line" = some none
  kC : keepIn K (.ref C) = true
  exC : subIn K (.ref C) (.type "BaseException") = some true
  veC : subIn K (.ref C) (.type "ValueError") = some true
  tyC : typeIn K (.ref C) = some (.type "type")
  hdC : hasDictIn K C = true
  mro : mroIn K C (.ref C) = some true
  sup : ks_superIn K C C "__init__" = some (some (.builtin "ValueError.__init__"))
  ms : mg "super" = none
  noq : nsIn K cStatics "thirdparty.any" = some none
  top : (P.main.scope.names.lookup ("super" : Str)).isSome = false
  fn : ∃ (fI cda cc : Addr) (oc : Value) (od : Option Addr) (doc pm : Value) (an : Option Addr) (ct : Value) (osl : Array (Option Value)) (qual : Str) (p1 p2 p3 a1 a2 a3 a4 a5 a6 q1 q2 q3 q4 q5 q6 q7 q8 : Pos) (ccl cl : Value) (cdd cld : Option Addr) (vs : Array Value) (ccs csl : Array (Option Value)) (file : Str) (tf : Tok),
    findIn K (.ref C) "__init__" = some (some (.ref fI)) ∧ typeIn K (.ref fI) = some (.type "function") ∧
    K.lookup fI = some ⟨oc, od, .func (ksFn "__init__" qual (xA2 p1 p2 p3) (xB2 tx a1 a2 a3 a4 a5 a6 q1 q2 q3 q4 q5 q6 q7 q8) xS2 .none .none doc pm an (.ref cda) ct cc), osl⟩ ∧ codeIn K (.ref cda) qual = true ∧
    K.lookup cda = some ⟨ccl, cdd, .fields vs, ccs⟩ ∧ vs[2]? = some (.str file tf) ∧ ((P.main.file : Str) == file) = true ∧ K.lookup cc = some ⟨cl, cld, .cell (some (.ref C)), csl⟩ ∧ (a3.endLine == a5.line) = true
structure OwnMade2 (h h' : Heap) (e C d : Addr) (v1 v2 : Value) : Prop where
  keep : ∀ b o, h.get? b = some o → h'.get? b = some o
  new : h.objs.size ≤ e
  obj : ∃ t1 : Addr, h'.get? e = some { cls := .ref C, dict := some d, data := .fields #[.ref t1, .none, .none, .none, .bool false, .none] }
  dbig : h.objs.size ≤ d
  dne : d ≠ e
  ns : h'.Ns1 d (fun y => if y = "line" then some v2 else if y = "text" then some v1 else none)
structure InitEnd2 (h h' : Heap) (x C dx t1 : Addr) (v1 v2 : Value) : Prop where
  keep : ∀ b o, b ≠ x → h.get? b = some o → h'.get? b = some o
  obj : h'.get? x = some { cls := .ref C, dict := some dx, data := .fields #[.ref t1, .none, .none, .none, .bool false, .none] }
  dbig : h.objs.size ≤ dx
  dne : dx ≠ x
  ns : h'.Ns1 dx (fun y => if y = "line" then some v2 else if y = "text" then some v1 else none)
section
variable {P : Program} {w : World} {A : Around} {E : Value → Shared → Prop} {R : Result → Shared → Prop} {s : Shared} {K : Frag} {mg : Str → Option Value} {C : Addr} {cn tx : Str}
theorem init_run2 {ag : Args} (T : Txt2 P K mg C cn tx) {fI x t0 : Addr} {v1 v2 : Value} (hfI : findIn K (.ref C) "__init__" = some (some (.ref fI))) (X : K.In s.heap) {mb : Str → Option Value} (Gm : s.heap.Ns mainGlobals mg) (Gb : s.heap.Ns builtinsNs mb) (hbs : mb "super" = some (.type "super")) (hlim : s.heap.NoLimit) (hbd : ∀ (body : List Stmt) (qual : Str) (p1 p2 p3 : Pos) (doc pm ct cdv : Value) (an : Option Addr) (cc : Addr), bindArgs (ksFn "__init__" qual (xA2 p1 p2 p3) body xS2 .none .none doc pm an cdv ct cc) ag = pure [(("self" : Str), .ref x), ("text", v1), ("line", v2)]) (hx : s.heap.get? x = some (excO C t0)) (hnx : K.lookup x = none) (hroom : A.depth < recursionLimit)
    (hq : ∀ h' tk dx t1, InitEnd2 s.heap h' x C dx t1 v1 v2 → R (.ok (.ret .none)) { s with heap := h', toks := tk }) :
    codeAny (model P w) A (.call (.ref fI) ag) R s := by
  obtain ⟨fI', cda, cc, oc, od, doc, pm, an, ct, osl, qual, p1, p2, p3, a1, a2, a3, a4, a5, a6, q1, q2, q3, q4, q5, q6, q7, q8, ccl, cl, cdd, cld, vs, ccs, csl, file, tf, e1, tI, ho, hcd, hcode, hvs, hfile, hcell, hpos⟩ := T.fn
  obtain rfl : fI = fI' := by rw [hfI] at e1; injection e1 with e1; injection e1 with e1; injection e1
  obtain ⟨nm, q, N, bs, bm, sn, sub, ab, col, dd, k0, k1, k2, k3, k5, hC, hbm⟩ := T.cls
  have hcl : clsIn K C = some { name := nm, bases := bs, mro := .ref C :: bm, ns := N, qualname := q, hasDict := true, slotNames := sn, subclasses := sub, abstract := ab, collection := col, hasDel := false } := by unfold clsIn; rw [hC] <;> rfl
  have lks : xS2.names.lookup ("super" : Str) = some .globalImplicit := by decide +kernel
  have lkc : xS2.names.lookup ("__class__" : Str) = some .free := by decide +kernel
  have lka : xS2.names.lookup ("self" : Str) = some .local := by decide +kernel
  have lk1 : xS2.names.lookup ("text" : Str) = some .local := by decide +kernel
  have lk2 : xS2.names.lookup ("line" : Str) = some .local := by decide +kernel
  refine ks_codeAny_call_defAt (fd := ksFn "__init__" qual (xA2 p1 p2 p3) (xB2 tx a1 a2 a3 a4 a5 a6 q1 q2 q3 q4 q5 q6 q7 q8) xS2 .none .none doc pm an (.ref cda) ct cc) (binds := [("self", .ref x), ("text", v1), ("line", v2)]) hroom (X _ _ ho) rfl hlim (codeRec_of X hcd) rfl ?bind ?cell ?loc (fun h₁ hns k => ?_)
  case bind =>
    exact BindsTo.of_eq (hbd _ _ _ _ _ _ _ _ _ _ _)
  case cell => intro y hy; simp [xS2] at hy; rcases hy with rfl | rfl | rfl | rfl | rfl <;> simp
  case loc =>
    intro y hy
    simp at hy
    rcases hy with rfl | rfl | rfl
    · exact lka
    · exact lk1
    · exact lk2
  have hn1 : h₁.Ns s.heap.objs.size (fun y => List.lookup y [(("line" : Str), v2), (("text" : Str), v1), (("self" : Str), Value.ref x)]) := hns
  have X₁ : K.In h₁ := X.keeps k
  have hx₁ := k _ _ hx
  have I₁ : InstAt h₁ x (excO C t0) C none := ⟨hx₁, rfl, rfl, trivial⟩
  have hself : (fun y => List.lookup y [(("line" : Str), v2), (("text" : Str), v1), (("self" : Str), Value.ref x)]) ("self" : Str) = some (.ref x) := rfl
  have hv1 : (fun y => List.lookup y [(("line" : Str), v2), (("text" : Str), v1), (("self" : Str), Value.ref x)]) ("text" : Str) = some v1 := rfl
  have hv2 : (fun y => List.lookup y [(("line" : Str), v2), (("text" : Str), v1), (("self" : Str), Value.ref x)]) ("line" : Str) = some v2 := rfl
  obtain ⟨oD, hD1, hD2⟩ : ∃ oD, h₁.get? C = some oD ∧ oD.data = .cls { name := nm, bases := bs, mro := .ref C :: bm, ns := N, qualname := q, hasDict := true, slotNames := sn, subclasses := sub, abstract := ab, collection := col, hasDel := false } := ⟨_, X₁ _ _ hC, rfl⟩
  refine ks_wpAt_execs_cons (ks_wpAt_Expr_any ?_)
  refine ks_wpAt_MethodCall (pl := (do return (← importBound (.Call (.Name "super" a1) [] [] a2) _).getD true)) ?_ (by
    rw [arm_eval_Call]
    refine bind_congr fun ov => bind_congr fun _ => ?_
    unfold methodCall methodCallPos
    rw [hpos]
    rfl)
  obtain ⟨hp, g, dr, tk, os⟩ := s
  refine ks_wpAt_super_base (f := fI) (cc := cda) lks lkc (by decide) rfl (X₁ _ _ ho) rfl rfl rfl (X₁ _ _ hcode) rfl hvs hfile T.top ?_
  refine ks_loadName_global rfl lks (loadGlobal_builtin (Gm.keeps k) T.ms (Gb.keeps k) hbs ⟨rfl, ?_⟩)
  refine wpAny_loadName_free rfl lkc (by rfl) ⟨_, X₁ _ _ hcell, rfl⟩ ?_
  refine wpAny_loadName_local rfl lka hn1 hself ?_
  refine ks_wpAny_isType_cls hD1 hD2 ⟨rfl, ?_⟩
  refine ks_wpAny_call_super hD1 hD2 I₁.at_ I₁.cls (fun c e => ?_) (looks_mroIn X₁ T.mro) (fun h₂ e2 k2 => ?_)
  · cases e
  have I₂ : InstAt h₂ x (excO C t0) C none := ⟨k2 _ _ hx₁, rfl, rfl, trivial⟩
  have X₂ : K.In h₂ := X₁.keeps k2
  have hal : alongIn K "__init__" ((({ name := nm, bases := bs, mro := .ref C :: bm, ns := N, qualname := q, hasDict := true, slotNames := sn, subclasses := sub, abstract := ab, collection := col, hasDel := false } : ClassData).mro.dropWhile (· != .ref C)).drop 1) = some (some (.builtin "ValueError.__init__")) := by
    have z := T.sup
    unfold ks_superIn at z
    rw [hcl] at z
    exact z
  refine kxs_getMethod kxs_ValueError (l₀ := .ref C :: bm) e2 (looks_opaque X₂ T.noq) (fun A Q E s k q => wpAny_bind ((looks_clsIn X₂ hcl) A _ E s k (wpAny_pure q))) rfl X₂ hal (I₂.type.andThen (looks_subIn X₂ T.veC)) (ks_ne X₂ I₂ hcl) (by decide) ?_
  have k3 : ∀ b o, h₂.get? b = some o → (h₂.push (kxs_mw "ValueError.__init__" x)).get? b = some o := fun b o e => Heap.get?_push_of_some _ e
  have hu : (h₂.push (kxs_mw "ValueError.__init__" x)).get? h₂.objs.size = some (kxs_mw "ValueError.__init__" x) := Heap.get?_push_at rfl rfl
  refine kxs_callWith (i := "ValueError.__init__") (x := x) (by rfl) ?_
  refine evalArgs_plain (Calls.spliced_cons (Calls.Constant_str (k := 0) (pos := a4) (Calls.spliced_nil ⟨hu, ?_⟩)))
  have X₃ : K.In (h₂.push (kxs_mw "ValueError.__init__" x)) := X₂.keeps k3
  have hx₃ := k3 _ _ I₂.at_
  -- the call of the bound __init__
  refine wpAny_call (codeAny_of_tree ?_)
  show wpAny _ _ (callAny (.ref h₂.objs.size) ⟨[_], []⟩) _ _ _
  simp only [callAny]
  refine wpAny_bind (wpAny_load hu ?_)
  simp only [kxs_mw, show (Value.type "method-wrapper" == Value.type "method" || Value.type "method-wrapper" == Value.type "builtin_function_or_method" || Value.type "method-wrapper" == Value.type "method-wrapper") = true by decide, if_true]
  refine KFB.if_so (by decide) ?_
  refine wpAny_bind (check_bound_init F.excBase_ValueError.toExcCallFacts (X₃ _ _ hC) hx₃ rfl ?_)
  refine wpAny_bind (wpAny_pure (wpAny_pure ?_))
  refine ⟨plainId_quiet F.excBase_ValueError.init.plain _, codeAny_builtin F.excBase_ValueError.initEntry ?_⟩
  refine exc_init_tree (cls := .ref C) (t0 := t0) (dv := none) (c2 := .none) (c3 := .none) (b4 := .bool false) hx₃ (one_size _) fun h₄ k4 e4 _ => ?_
  have hLx : hp.objs.size ≠ x := Nat.ne_of_gt (Heap.lt_size hx)
  have k14 : ∀ b o, b ≠ x → h₁.get? b = some o → h₄.get? b = some o := fun b o nb e => k4 b o nb (k3 _ _ (k2 _ _ e))
  have X₄ : K.In h₄ := fun a o e => k14 a o (fun z => by rw [z, hnx] at e; cases e) (X₁ a o e)
  have hn4 : h₄.Ns hp.objs.size (fun y => List.lookup y [(("line" : Str), v2), (("text" : Str), v1), (("self" : Str), Value.ref x)]) := hn1.at fun o e => k14 _ o hLx e
  have sz4 : hp.objs.size ≤ h₄.objs.size := by
    obtain ⟨oL, _, _, hL, _⟩ := hn4
    exact Nat.le_of_lt (Heap.lt_size hL)
  refine ks_wpAt_execs_cons (ks_wpAt_Assign_Attr ?_)
  refine wpAt_of_wpAny (wpAny_Name (wpAny_loadName_local rfl lk1 hn4 hv1 ?_) (by decide))
  refine wpAny_Name (wpAny_loadName_local rfl lka hn4 hself ?_) (by decide)
  refine set_plain X₄ (od := none) ⟨e4, rfl, rfl, trivial⟩ T.sa ?_
  refine exc_osa X₄ e4 hcl (show refsVE (.ref C :: bm) = true from hbm) rfl T.no_text (fun h₅ tk₅ dx k5' dn dne hx₅ hn₅ => ?_)
  have k15 : ∀ b o, b ≠ x → h₁.get? b = some o → h₅.get? b = some o := fun b o nb e => k5' b o nb (k14 b o nb e)
  have X₅ : K.In h₅ := fun a o e => k15 a o (fun z => by rw [z, hnx] at e; cases e) (X₁ a o e)
  have hn5 : h₅.Ns hp.objs.size (fun y => List.lookup y [(("line" : Str), v2), (("text" : Str), v1), (("self" : Str), Value.ref x)]) := hn1.at fun o e => k15 _ o hLx e
  have dK : K.lookup dx = none := by
    cases e : K.lookup dx with
    | none => rfl
    | some o => exact absurd (Heap.lt_size (X₄ _ _ e)) (Nat.not_lt.mpr dn)
  obtain ⟨oD5, ho5, _⟩ := L2.lookIn_ns hn₅
  show PySem.wpAt _ _ _ (execs [_] _) _ _ _
  refine ks_wpAt_execs_cons (ks_wpAt_Assign_Attr ?_)
  refine wpAt_of_wpAny (wpAny_Name (wpAny_loadName_local rfl lk2 hn5 hv2 ?_) (by decide))
  refine wpAny_Name (wpAny_loadName_local rfl lka hn5 hself ?_) (by decide)
  refine set_plain X₅ (od := some oD5) ⟨hx₅, rfl, rfl, ho5⟩ T.sa ?_
  refine PySem.OEX.osa_old (nl := ["text"]) X₅ hx₅ hn₅ (fun y hy => by
      by_cases e : y = "text"
      · subst e; exact List.mem_cons_self
      · exact absurd (if_neg e) hy) (by decide) hcl (show refsVE (.ref C :: bm) = true from hbm) rfl T.no_line fun h₆ tk₆ k6 hn6 => ?_
  show PySem.wpAt _ _ _ (execs [] _) _ _ _
  refine wpAt_of_wpAny (wpAny_execs_nil ?_)
  exact hq h₆ tk₆ dx _ ⟨fun b o nb e => k6 b o (fun z => by subst z; exact absurd (Heap.lt_size (k14 _ _ nb (k _ _ e))) (Nat.not_lt.mpr dn)) (k15 b o nb (k b o e)), k6 x _ (Ne.symm dne) hx₅, Nat.le_trans sz4 dn, dne, hn6⟩
theorem made2 {rest : List Value} {kw : List (Str × Value)} (T : Txt2 P K mg C cn tx) {v1 v2 : Value} (X : K.In s.heap) {mb : Str → Option Value} (Gm : s.heap.Ns mainGlobals mg) (Gb : s.heap.Ns builtinsNs mb) (hbs : mb "super" = some (.type "super")) (hlim : s.heap.NoLimit) (hroom : A.depth + 1 < recursionLimit) (hrest : rest.length ≤ sizeLine) (hbd : ∀ (body : List Stmt) (qual : Str) (p1 p2 p3 : Pos) (doc pm ct cdv : Value) (an : Option Addr) (cc x : Addr), bindArgs (ksFn "__init__" qual (xA2 p1 p2 p3) body xS2 .none .none doc pm an cdv ct cc) ⟨.ref x :: rest, kw⟩ = pure [(("self" : Str), .ref x), ("text", v1), ("line", v2)])
    (hq : ∀ h' tk e d, OwnMade2 s.heap h' e C d v1 v2 → R (.ok (.ret (.ref e))) { s with heap := h', toks := tk }) :
    codeAny (model P w) A (.call (.ref C) ⟨rest, kw⟩) R s := by
  obtain ⟨nm, q, N, bs, bm, sn, sub, ab, col, dd, k0, k1, k2, k3, k5, hC, hbm⟩ := T.cls
  obtain ⟨fI, cda, cc, oc, od, doc, pm, an, ct, osl, qual, p1, p2, p3, a1, a2, a3, a4, a5, a6, q1, q2, q3, q4, q5, q6, q7, q8, ccl, cl, cdd, cld, vs, ccs, csl, file, tf, iC, tI, _⟩ := T.fn
  obtain ⟨hp, g, dr, tk, os⟩ := s
  have k : ∀ b o, hp.get? b = some o → ((hp.push (kdv_tup rest)).push (excO C hp.objs.size)).get? b = some o := fun b o e => Heap.get?_push_of_some _ (Heap.get?_push_of_some _ e)
  have hget : ((hp.push (kdv_tup rest)).push (excO C hp.objs.size)).get? (hp.objs.size + 1) = some (excO C hp.objs.size) := by heap_get
  have hnx : K.lookup (hp.objs.size + 1) = none := by
    cases e : K.lookup (hp.objs.size + 1) with
    | none => rfl
    | some o =>
      have z : hp.get? (hp.objs.size + 1) = some o := X _ _ e
      exact absurd (Nat.lt_of_succ_lt (Heap.lt_size z)) (Nat.lt_irrefl _)
  refine call_own_kw F.excBase_ValueError (fun X => refsVE_contains X bm hbm) (X _ _ hC) (looks_findIn X iC) (fun self => bind_fn X self tI) hrest ?_
  refine init_run2 (s := ⟨(hp.push (kdv_tup rest)).push (excO C hp.objs.size), g, dr, tk, os⟩) T iC (X.keeps k) (Gm.keeps k) (Gb.keeps k) hbs (hlim.keeps k) (fun b q1 p1 p2 p3 d1 m1 c1 c2 a1 c3 => hbd b q1 p1 p2 p3 d1 m1 c1 c2 a1 c3 _) hget hnx ?_ fun h' tk' dx t1 ⟨k', hx, dn, dne, hns⟩ => ?_
  · show A.depth + 1 < recursionLimit
    exact hroom
  · have old : ∀ b o, hp.get? b = some o → h'.get? b = some o := fun b o e => k' b o (Nat.ne_of_lt (Nat.lt_succ_of_lt (Heap.lt_size e))) (k b o e)
    have z : hp.objs.size + 1 + 1 ≤ dx := by
      first
        | (simpa only [Heap.size_push] using dn)
        | exact dn
        | (have q := dn; rw [Heap.size_push, Heap.size_push] at q; exact q)
    exact ⟨rfl, hq h' tk' (hp.objs.size + 1) dx ⟨old, Nat.le_succ _, ⟨_, hx⟩, Nat.le_trans (Nat.le_trans (Nat.le_succ _) (Nat.le_succ _)) z, dne, hns⟩⟩
end
end FX
set_option Elab.async false
set_option linter.all false
set_option maxRecDepth 100000
set_option maxHeartbeats 2000000
set_option autoImplicit false
/-! the two-field error's lambda; making errors without a field, with two -/
namespace LamX
open PySem PySem.Spec PyProof.Rows L2
def lookB2 (vn fld fl2 : Str) (a1 a2 b1 b2 a3 : Pos) : Expr := .List [.Attribute (.Name vn a1) fld a2, .Attribute (.Name vn b1) fl2 b2] a3
/-- its object -/
def LkO2 (q vn fld fl2 : Str) (f c' : Addr) : HO := .ext fun h => ∃ (p1 a1 a2 b1 b2 a3 : Pos) (pm ctv : Value), h.get? f = some (PySem.W.kla_obj "<lambda>" q (lamA vn p1) (lookB2 vn fld fl2 a1 a2 b1 b2 a3) (lookS vn) [] pm c' ctv)
theorem lkO2_ok {P : Program} {w : World} {q vn fld fl2 : Str} {p1 a1 a2 b1 b2 a3 : Pos} {f c' : Addr} {pm ctv : Value} {h : Heap} {H : Hp} (e : h.get? f = some (PySem.W.kla_obj "<lambda>" q (lamA vn p1) (lookB2 vn fld fl2 a1 a2 b1 b2 a3) (lookS vn) [] pm c' ctv)) : ObjOk P w H h f (LkO2 q vn fld fl2 f c') :=
  ⟨⟨p1, a1, a2, b1, b2, a3, pm, ctv, e⟩, ⟨_, e⟩, fun _ _ ⟨p1, a1, a2, b1, b2, a3, pm, ctv, e⟩ k => ⟨p1, a1, a2, b1, b2, a3, pm, ctv, k _ e⟩⟩
/-- lambda vn: [vn.fld] -/
def tLook2 (P : Addr) (q vn fld fl2 : Str) : TE := fun σ H Q => ∃ ps, TabAt H P q ps ∧ ∀ (H2 : Hp) (f c' : Addr), Look1 H P q ps c' H2 → H2 f = none → Q (.ref f) (upd H2 f (LkO2 q vn fld fl2 f c'))
theorem pe_look2 {X : Cx} {c P : Addr} {q vn fld fl2 : Str} {p1 a1 a2 b1 b2 a3 pos : Pos} (TB : TabB X.base X.mg c P) (hcode : X.env.code = .ref c) (hq : q = X.env.qual ++ "<lambda>") : PE X (.Lambda (lamA vn p1) (lookB2 vn fld fl2 a1 a2 b1 b2 a3) (lookS vn) pos) (tLook2 P q vn fld fl2) := by
  refine ⟨fun pins s σ H Q I h => ?_⟩
  obtain ⟨ps, ⟨hP, ht, ha⟩, hQ⟩ := h
  have noF : ∀ y ∈ (lookS vn).names, y.2 = .free → ∃ c, X.env.cells.lookup y.1 = some c := fun y hy e => by simp [lookS] at hy; subst hy; cases e
  have clo0 : cloFrom X.env.cells (lookS vn).names [] = [] := by simp [lookS, cloFrom]
  refine lam_make4 (LO := LkO2 q vn fld fl2) I TB hcode hq hP ht ha rfl noF (fun f c' pm ctv h' H2 e => lkO2_ok (by rw [clo0] at e; exact e)) fun f c' H1 s' I1 hl hf hc => ?_
  exact ⟨.ref f, _, I1, rfl, hQ H1 f c' (hl.imp (fun z => ⟨z.1, _, z.2⟩) fun ⟨ps', h1, h2, h3, h4⟩ => ⟨ps', h1, h2, h3, h4⟩) hf⟩
/-- such a lambda called with an error that has the field -/
theorem look_call2 {P : Program} {w : World} {A : Around} {E : Value → Shared → Prop} {s : Shared} {K : PySem.W.Frag} {vn fld fl2 q : Str} {p1 a1 a2 b1 b2 a3 : Pos} {f c' a C : Addr} {pm ctv u u2 : Value} {ox od : Obj} {R : Value → Shared → Prop}
    (hf : s.heap.get? f = some (PySem.W.kla_obj "<lambda>" q (lamA vn p1) (lookB2 vn fld fl2 a1 a2 b1 b2 a3) (lookS vn) [] pm c' ctv)) (hcd : s.heap.CodeRec (.ref c') q) (hroom : A.depth < recursionLimit) (hlim : s.heap.NoLimit)
    (XK : K.In s.heap) (T : XfC K C) (hno : PySem.W.findIn K (.ref C) fld = some none) (hno2 : PySem.W.findIn K (.ref C) fl2 = some none) (J : ∀ h, (∀ b o, s.heap.get? b = some o → h.get? b = some o) → PySem.W.InstAt h a ox C (some od)) (hu : PySem.W.findObj K C (some od) fld = some (.value u)) (hh : PySem.W.handedIn u = true) (hu2 : PySem.W.findObj K C (some od) fl2 = some (.value u2)) (hh2 : PySem.W.handedIn u2 = true)
    (hvd : (vn == ("__debug__" : Str)) = false) (hbind : bindArgs (PySem.W.kla_fn "<lambda>" q (lamA vn p1) (lookB2 vn fld fl2 a1 a2 b1 b2 a3) (lookS vn) [] pm (.ref c') ctv) ⟨[.ref a], []⟩ = pure [(vn, .ref a)])
    (fin : ∀ (h' : Heap) (tk : Nat), (∀ b o, s.heap.get? b = some o → h'.get? b = some o) → s.heap.objs.size ≤ h'.objs.size → R (.ref h'.objs.size) { s with heap := h'.push { cls := .type "list", data := .seq #[u, u2] }, toks := tk }) :
    wpAny (model P w) A (call (.ref f) [.ref a]) R E s := by
  have lk1 : (lookS vn).names.lookup vn = some .local := by simp [lookS, List.lookup]
  refine wpAny_call (PySem.W.kla_callFunE hroom hf rfl rfl rfl rfl hcd ?_)
  rw [hbind]
  refine wpAny_pure (wpAny_newFunctionEnv (fun y hy => by simp [lookS] at hy; subst hy; simp) (fun y hy => by simp at hy; subst hy; exact lk1) (fun h₁ hns hsb => ⟨hlim.fresh _ hsb, ?_⟩) rfl)
  show codeAny _ _ (.expr (lookB2 vn fld fl2 a1 a2 b1 b2 a3) (PySem.W.envX q (lookS vn) s.heap.objs.size f (.ref c') [])) _ _
  have hk₁ : ∀ b o, s.heap.get? b = some o → h₁.get? b = some o := fun b o e => hsb.extBut b o (Nat.ne_of_lt (Heap.lt_size e)) (Heap.get?_push_of_some _ e)
  refine PySem.W.kla_codeExpr ?_
  obtain ⟨hp, g, dr, tk, os⟩ := s
  have hv1 : (fun y => ([(vn, Value.ref a)] : List (Str × Value)).reverse.lookup y) vn = some (.ref a) := by simp [List.lookup]
  have hsz : hp.objs.size ≤ h₁.objs.size := by
    obtain ⟨oL, _, _, hL, _⟩ := hns
    exact Nat.le_of_lt (Heap.lt_size hL)
  refine wpAny_List_spliced (Calls.spliced_cons (attr_of (by rfl) (wpAny_Name (wpAny_loadName_local rfl lk1 hns hv1 ?_) hvd)))
  refine PySem.HandSPX.exc_get (XK.keeps hk₁) (J h₁ hk₁) T.ga T.gg T.exC hu hh ?_
  refine Calls.spliced_cons (attr_of (by rfl) (wpAny_Name (wpAny_loadName_local rfl lk1 hns hv1 ?_) hvd))
  refine PySem.HandSPX.exc_get (XK.keeps hk₁) (J h₁ hk₁) T.ga T.gg T.exC hu2 hh2 (Calls.spliced_nil ⟨by show 2 ≤ sizeLine; rw [sizeLine_eq]; decide, ?_⟩)
  exact fin _ _ hk₁ hsz
/-- look(e): look a local name -/
def tLookC2 (K : PySem.W.Frag) (i : Nat) (ta : TA) : TE := fun σ H Q => ∃ (f c' : Addr) (q vn fld fl2 : Str), σ[i]? = some (some (.ref f)) ∧ H f = some (LkO2 q vn fld fl2 f c') ∧ (vn == ("__debug__" : Str)) = false ∧
  (∀ (p1 a1 a2 b1 b2 a3 : Pos) (pm ctv cd a : Value), bindArgs (PySem.W.kla_fn "<lambda>" q (lamA vn p1) (lookB2 vn fld fl2 a1 a2 b1 b2 a3) (lookS vn) [] pm cd ctv) ⟨[a], []⟩ = pure [(vn, a)]) ∧
  ta σ H fun vs H1 => ∃ (e C d c2 : Addr) (fs : List (Str × V)) (v v2 : V), vs = [.ref e] ∧ H1 f = some (LkO2 q vn fld fl2 f c2) ∧ H1 c2 = some (CodeO c2 q) ∧ H1 e = some (exo e C (some d)) ∧ H1 d = some (.xd fs) ∧ fs.lookup fld = some v ∧ fs.lookup fl2 = some v2 ∧ XfC K C ∧ PySem.W.findIn K (.ref C) fld = some none ∧ PySem.W.findIn K (.ref C) fl2 = some none ∧ ∀ l, H1 l = none → Q (.ref l) (upd H1 l (.lst [v, v2]))
theorem pe_lookC2 {X : Cx} {i k : Nat} {x : Str} {p pos : Pos} {e : Expr} {ta : TA} (hr : Room k X.A) (hN : X.N[i]? = some x) (hv : Vis X.env.scope x) (ha : PA X [e] ta)
    (hdb : (x == ("__debug__" : Str)) = false := by decide) (hcd : (x == ("__classdict__" : Str)) = false := by decide)
    (he : starEach [e] X.env = (false, eval e X.env) :: starEach [] X.env := by rfl) (hpl : (backTo pos (starEach [] X.env)).any (·.1) = false := by rfl) :
    PE X (.Call (.Name x p) [e] [] pos) (tLookC2 X.K i ta) := by
  refine ⟨fun pins s σ H Q I h => ?_⟩
  obtain ⟨f, c', q, vn, fld, fl2, hs, hF, hvd, hbind, ht⟩ := h
  refine wpAny_Call_Name_kw (thn ((pe_var (pos := p) hN hv hdb hcd).run pins s σ H (fun v H1 => v = .ref f ∧ H1 = H) I ⟨.ref f, hs, rfl, rfl⟩) fun u s1 ⟨v, H1, I1, r1, q1⟩ => ?_)
  obtain ⟨rfl, rfl⟩ := q1
  cases r1
  have fn1 : PySem.W.FnAt f s1.heap := by
    obtain ⟨⟨p1, a1, a2, b1, b2, a3, pm, ctv, e0⟩, _⟩ := I1.hok f _ hF
    exact ⟨_, _, _, _, e0⟩
  refine PySem.W.callWith_F fn1 (thn (ha.run pos pins s1 σ _ _ I1 ht) fun us s2 ⟨vs, H2, I2, r, e, C, d, c2, fs, v, v2, ev, hF2, hC2, hE, hD, hl, hl2, T, hno, hno2, q2⟩ => ?_) he hpl
  subst ev
  obtain ⟨⟨p1, a1, a2, b1, b2, a3, pm, ctv, e0⟩, _⟩ := I2.hok f _ hF2
  refine ⟨⟨_, _, _, _, e0⟩, ?_⟩
  obtain ⟨u', eu, ru⟩ : ∃ u', us = [u'] ∧ u' = Value.ref e := by
    cases r with
    | cons r1 r2 => cases r2; exact ⟨_, rfl, r1⟩
  subst eu ru
  obtain ⟨t1, ho⟩ := exo_at I2.hok hE
  have hx : ObjOk X.prog X.w H2 s2.heap d (.xd fs) := I2.hok d _ hD
  obtain ⟨mA, hns, hr'⟩ := hx
  obtain ⟨od, hod, hlk⟩ := lookIn_ns hns
  obtain ⟨u', hu, ru⟩ := RelO.some_of (v := v) (o := mA fld) (by rw [← hl]; exact hr' fld)
  obtain ⟨u2', hu2, ru2⟩ := RelO.some_of (v := v2) (o := mA fl2) (by rw [← hl2]; exact hr' fl2)
  have hrec : s2.heap.CodeRec (.ref c2) q := by
    obtain ⟨⟨oc, vs, t, e1, e2, e3⟩, _⟩ := I2.hok c2 _ hC2
    exact ⟨c2, oc, vs, t, rfl, e1, e2, e3⟩
  refine look_call2 (s := s2) (K := X.K) (C := C) (a := e) (u := u') (u2 := u2') (od := od) e0 hrec hr.depth I2.nolimit I2.kIn T hno hno2 (fun h k => ⟨k _ _ ho, rfl, rfl, k _ _ hod⟩) (PySem.W.findObj_own T.hdC hno rfl (by rw [hlk, hu])) (handed_of ru) (PySem.W.findObj_own T.hdC hno2 rfl (by rw [hlk, hu2])) (handed_of ru2) hvd (hbind _ _ _ _ _ _ _ _ _ _) fun h' tk kp hz => ?_
  refine ⟨.ref h'.objs.size, _, I2.laid (t' := tk) (h' := h'.push { cls := .type "list", data := .seq #[u', u2'] }) (o := .lst [v, v2]) (fun b o e => Heap.get?_push_of_some _ (kp b o e)) hz ⟨by show 2 ≤ sizeLine; rw [sizeLine_eq]; decide, [u', u2'], _, .cons ru (.cons ru2 .nil), Heap.get?_push_size _ rfl⟩, rfl, q2 _ (I2.hok.fresh hz)⟩
end LamX
namespace L2
open PySem PySem.Spec PyProof.Rows
section
variable {X : Cx} {C : Addr} {cn tx : Str}
theorem two_rel {v v2 : V} {v' v2' : Value} (r : RelV v v') (r2 : RelV v2 v2') (f : Str) : RelO (List.lookup f [(("line" : Str), v2), ("text", v)]) (if f = "line" then some v2' else if f = "text" then some v' else none) := by
  rw [lookup_put]
  by_cases h : f = "line"
  · rw [if_pos h, if_pos h]; exact r2
  · rw [if_neg h, if_neg h]
    exact relO_one r f
/-- the error's object, its dict: both laid -/
theorem err_laid2 {pins : List (Addr × Obj)} {σ : St} {H : Hp} {s : Shared} {h' : Heap} {tk : Nat} {e d : Addr} {v v2 : V} {v' v2' : Value} (I : Inv X pins σ H s) (rv : RelV v v') (rv2 : RelV v2 v2') (M : FX.OwnMade2 s.heap h' e C d v' v2') :
    Inv X pins σ (upd (upd H e (exo e C (some d))) d (.xd [("line", v2), ("text", v)])) { s with heap := h', toks := tk } ∧ e ≠ d ∧ H e = none ∧ H d = none := by
  obtain ⟨t1, hoe⟩ := M.obj
  have hns := M.ns
  have fe : H e = none := I.hok.fresh M.new
  have fd : H d = none := I.hok.fresh M.dbig
  obtain ⟨G, g1, g2⟩ := restrict h' fun b => decide (b ≠ d)
  have gk : ∀ b, b ≠ d → G.get? b = h'.get? b := fun b hb => g1 b (decide_eq_true hb)
  have gd : G.get? d = none := g2 d (by simp)
  have old : ∀ b o, s.heap.get? b = some o → G.get? b = some o := fun b o q => (gk b (Nat.ne_of_lt (Nat.lt_of_lt_of_le (Heap.lt_size q) M.dbig))).trans (M.keep b o q)
  have sub : ∀ b o, G.get? b = some o → h'.get? b = some o := fun b o q => by
    by_cases hb : b = d
    · rw [hb, gd] at q; cases q
    · rw [← gk b hb]; exact q
  have ge : s.heap.get? e = none := by
    cases q : s.heap.get? e with
    | none => rfl
    | some o => exact absurd (Heap.lt_size q) (Nat.not_lt.mpr M.new)
  have hne : e ≠ d := Ne.symm M.dne
  have I1 : Inv X pins σ (upd H e (exo e C (some d))) { s with heap := G, toks := tk } := I.laidN (t' := tk) old ge fe (exo_ok ((gk e hne).trans hoe))
  have I2 := I1.laidN (a := d) (h' := h') (t' := tk) (o := .xd [("line", v2), ("text", v)]) sub gd (by rw [upd_ne M.dne]; exact fd) ⟨_, hns, fun f => two_rel rv rv2 f⟩
  exact ⟨I2, hne, fe, fd⟩
/-- C(e) as a value -/
def tErr2 (C : Addr) (ta : TA) : TE := fun σ H Q => ta σ H fun vs H1 => ∃ v v2, vs = [v, v2] ∧ ∀ e d, e ≠ d → H1 e = none → H1 d = none → Q (.ref e) (upd (upd H1 e (exo e C (some d))) d (.xd [("line", v2), ("text", v)]))
theorem pe_err2 {a a' : Expr} {ta : TA} {p pos : Pos} {k : Nat} (T : FX.Txt2 X.prog X.K X.mg C cn tx) (hr : Room k X.A) (ha : PA X [a, a'] ta) (hg : Gl X cn) (hdb : (cn == ("__debug__" : Str)) = false := by decide)
    (he : starEach (a :: [a']) X.env = (false, eval a X.env) :: starEach [a'] X.env := by rfl) (hpl : (backTo pos (starEach [a'] X.env)).any (·.1) = false := by rfl) :
    PE X (.Call (.Name cn p) [a, a'] [] pos) (tErr2 C ta) := by
  refine ⟨fun pins s σ H Q I h => ?_⟩
  refine wpAny_Call_Name_kw (ld_glob I hg T.gC ?_ hdb)
  refine PySem.W.callWith_K (h₀ := X.base) I.ok.mod.kin T.kC (thn (ha.run pos pins s σ H _ I h) fun us s1 hh => ?_) he hpl
  obtain ⟨vs, H1, I1, r1, v, v2, ev, q1⟩ := hh
  subst ev
  refine ⟨I1.kIn, ?_⟩
  obtain ⟨v', v2', ews, rv, rv2⟩ : ∃ v' v2', us = [v', v2'] ∧ RelV v v' ∧ RelV v2 v2' := by
    cases r1 with
    | cons rv rn => cases rn with
      | cons rv2 rn => cases rn; exact ⟨_, _, rfl, rv, rv2⟩
  subst ews
  · show wpAny _ _ (call (.ref C) [v', v2']) _ _ _
    have hlim := I1.nolimit
    obtain ⟨mb, hb1, hb2⟩ := I1.mod.blt
    have Gm := I1.mod.glob.keeps I1.bk
    have Gb := hb1.keeps I1.bk
    have hbs : mb "super" = some (.type "super") := (hb2 "super" (by decide)).trans (by decide +kernel)
    obtain ⟨hp, g, dr, tk, os⟩ := s1
    refine wpAny_call (FX.made2 T I1.kIn Gm Gb hbs hlim (by have := hr.dp; omega) (by show 2 ≤ sizeLine; rw [sizeLine_eq]; decide) (fun _ _ _ _ _ _ _ _ _ _ _ _ => rfl) fun h' tk' e d M => ?_)
    obtain ⟨J, hne, fe, fd⟩ := err_laid2 (tk := tk') I1 rv rv2 M
    exact ⟨.ref e, _, J, rfl, q1 e d hne fe fd⟩
/-- C(fld = e) -/
theorem pe_err2Kw {kws : List Keyword} {t : TA} {p pos : Pos} {k : Nat} (T : FX.Txt2 X.prog X.K X.mg C cn tx) (hr : Room k X.A) (hkw : PK X kws t) (hg : Gl X cn)
    (hall : (backToKw pos (keywordEach kws X.env)).all (·.1.isSome) = true := by rfl) (hks : (backToKw pos (keywordEach kws X.env)).filterMap (·.1) = [("text" : Str), "line"] := by rfl) (hdb : (cn == ("__debug__" : Str)) = false := by decide)
    (hpl : ((backTo pos (starEach [] X.env)).any (·.1) || (backToKw pos (keywordEach kws X.env)).any (·.1.isNone)) = false := by rfl) :
    PE X (.Call (.Name cn p) [] kws pos) (tErr2 C t) := by
  refine ⟨fun pins s σ H Q I h => ?_⟩
  refine wpAny_Call_Name_kw (ld_glob I hg T.gC ?_ hdb)
  refine PySem.W.callWith_KW0 (h₀ := X.base) I.ok.mod.kin T.kC hall ?_ hpl
  refine thn (hkw.run pos pins s σ H _ I h) fun ws s2 ⟨zs, H2, I2, rz, q2⟩ => ⟨I2.kIn, ?_⟩
  rw [hks]
  obtain ⟨v, v2, ev, q1⟩ := q2
  subst ev
  obtain ⟨v', v2', ews, rv, rv2⟩ : ∃ v' v2', ws = [v', v2'] ∧ RelV v v' ∧ RelV v2 v2' := by
    cases rz with
    | cons rv rn => cases rn with
      | cons rv2 rn => cases rn; exact ⟨_, _, rfl, rv, rv2⟩
  subst ews
  · show wpAny _ _ (call (.ref C) [] [("text", v'), ("line", v2')]) _ _ _
    have hlim := I2.nolimit
    obtain ⟨mb, hb1, hb2⟩ := I2.mod.blt
    have Gm := I2.mod.glob.keeps I2.bk
    have Gb := hb1.keeps I2.bk
    have hbs : mb "super" = some (.type "super") := (hb2 "super" (by decide)).trans (by decide +kernel)
    obtain ⟨hp, g, dr, tk, os⟩ := s2
    refine wpAny_call (FX.made2 T I2.kIn Gm Gb hbs hlim (by have := hr.dp; omega) (Nat.zero_le _) (fun _ _ _ _ _ _ _ _ _ _ _ _ => rfl) fun h' tk' e d M => ?_)
    obtain ⟨J, hne, fe, fd⟩ := err_laid2 (tk := tk') I2 rv rv2 M
    exact ⟨.ref e, _, J, rfl, q1 e d hne fe fd⟩
/-- C() -/
def tErr0 (C : Addr) : TE := fun σ H Q => ∀ e, H e = none → Q (.ref e) (upd H e (exo e C none))
theorem pe_err0 {p pos : Pos} {k : Nat} (T : FX.Txt0 X.prog X.K X.mg C cn tx) (hr : Room k X.A) (hg : Gl X cn) (hdb : (cn == ("__debug__" : Str)) = false := by decide) : PE X (.Call (.Name cn p) [] [] pos) (tErr0 C) := by
  refine ⟨fun pins s σ H Q I h => ?_⟩
  refine wpAny_Call_Name_kw (ld_glob I hg T.gC ?_ hdb)
  refine PySem.W.callWith_K0 I.kIn T.kC ?_
  show wpAny _ _ (call (.ref C) []) _ _ _
  have hlim := I.nolimit
  obtain ⟨mb, hb1, hb2⟩ := I.mod.blt
  have Gm := I.mod.glob.keeps I.bk
  have Gb := hb1.keeps I.bk
  have hbs : mb "super" = some (.type "super") := (hb2 "super" (by decide)).trans (by decide +kernel)
  obtain ⟨hp, g, dr, tk, os⟩ := s
  refine wpAny_call (FX.made0 T I.kIn Gm Gb hbs hlim (by have := hr.dp; omega) (Nat.zero_le _) (fun _ _ _ _ _ _ _ _ _ _ _ _ => rfl) fun h' tk' e M => ?_)
  obtain ⟨t1, ho⟩ := M.obj
  exact ⟨.ref e, _, I.laid (t' := tk') M.keep M.new (exo_ok ho), rfl, h e (I.hok.fresh M.new)⟩
end
end L2
set_option Elab.async false
set_option linter.all false
set_option maxRecDepth 100000
set_option maxHeartbeats 2000000
set_option autoImplicit false
namespace T
open PySem PySem.Spec PyProof.Rows L2 LamX
open PySem.W (Frag)
/-- lambda vn: [vn.fld] -/
structure Lk where
  q : Str
  vn : Str
  flds : List Str
def LkOs (q vn : Str) : List Str → Addr → Addr → HO
  | [a], f, c' => LkO q vn a f c'
  | [a, b], f, c' => LkO2 q vn a b f c'
  | _, _, _ => .ext fun _ => False
instance : Rp Lk := ⟨fun K F v x => ∃ f c', v = .ref f ∧ F f = some (LkOs x.q x.vn x.flds f c') ∧ F c' = some (CodeO c' x.q), fun s ⟨f, c', h1, h2, h3⟩ => ⟨f, c', h1, s _ _ h2, s _ _ h3⟩⟩
/-- two errors, how to read them, what is due -/
structure Row where
  a : EV
  b : EV
  l : Lk
  due : List (Vid D)
instance : Rp Row := ⟨fun K F v x => ∃ t v1 v2 v3 v4, v = .ref t ∧ F t = some (.tup [v1, v2, v3, v4]) ∧ Rp.rp K F v1 x.a ∧ Rp.rp K F v2 x.b ∧ Rp.rp K F v3 x.l ∧ Rp.rp K F v4 x.due,
  fun s ⟨t, v1, v2, v3, v4, h0, h, h1, h2, h3, h4⟩ => ⟨t, v1, v2, v3, v4, h0, s _ _ h, Rp.mono s h1, Rp.mono s h2, Rp.mono s h3, Rp.mono s h4⟩⟩
section
variable {B : Bs} {F F' : Hp} {Γ Γ' Γ2 : List Sl} {C C' C1 C2 C3 : Cs} {τ : List TV} {σ : St} {ws : List V} {H H' : Hp} {x y z : TV} {c : Ct} {b b' : Bool}
variable {ta tc te : TE} {ca : TA} {D' : EndT} {ts tu tw tb : TS} {wi : TI} {g : TG} {t u : TT} {js vs : List Nat}
theorem ev_row {a a2 : EV} {l : Lk} {due : List (Vid D)} (ha : EvA B ca Γ C [tv a, tv a2, tv l, tv due] C1) : Ev B (tTup ca) Γ C (tv (Row.mk a a2 l due)) C1 := ev_tup ha (by show 4 ≤ sizeLine; decide) fun K F vs p h hv => by
  cases hv with
  | cons h1 hv => cases hv with
    | cons h2 hv => cases hv with
      | cons h3 hv => cases hv with
        | cons h4 hv =>
          cases hv
          exact ⟨p, _, _, _, _, rfl, h, h1, h2, h3, h4⟩
/-- a, b, c, d = a row -/
theorem tg_row {x : Row} {i j k l : Nat} : Tg B (gTup B.K 4 (gCons (gName i) (gCons (gName j) (gCons (gName k) (gCons (gName l) gNil))))) [i, j, k, l] (tv x) Γ ((((Γ.set i (some (tv x.a))).set j (some (tv x.b))).set k (some (tv x.l))).set l (some (tv x.due))) := fun F C σ v H hf hs hx Q q => by
  obtain ⟨a, v1, v2, v3, v4, rfl, h, r1, r2, r3, r4⟩ := hx
  refine ⟨a, [v1, v2, v3, v4], rfl, .inl (.inl (hf.sub _ _ h)), rfl, v1, _, rfl, v2, _, rfl, v3, _, rfl, v4, [], rfl, rfl, ?_⟩
  refine q _ ((((hs.set (fun t e => by cases e; exact ⟨v1, rfl, r1⟩) i).set (fun t e => by cases e; exact ⟨v2, rfl, r2⟩) j).set (fun t e => by cases e; exact ⟨v3, rfl, r3⟩) k).set (fun t e => by cases e; exact ⟨v4, rfl, r4⟩) l) (fun m hm => ?_) (by simp)
  simp at hm
  rw [List.getElem?_set_ne (Ne.symm hm.2.2.2), List.getElem?_set_ne (Ne.symm hm.2.2.1), List.getElem?_set_ne (Ne.symm hm.2.1), List.getElem?_set_ne (Ne.symm hm.1)]
/-- the lambda -/
theorem ev_look {P : Addr} {q vn fld : Str} {k : Nat} (hk : C[k]? = some (P, .tab q)) : Ev B (tLook P q vn fld) Γ C (tv (Lk.mk q vn [fld])) C := fun τ σ ws H ⟨F, s⟩ Q qq => by
  obtain ⟨_, ⟨o, hP, ps, rfl, ht, hc⟩, _⟩ := s.hf.cells _ (List.mem_of_getElem? hk)
  have hP' : H P = some (.tbl ps) := hP
  refine ⟨ps, ⟨hP, ht, fun p cv hcv => ?_⟩, fun H2 f c' l hf => ?_⟩
  · obtain ⟨c, g1, g2⟩ := hc p cv hcv
    exact ⟨c, g1, s.hf.sub _ _ g2⟩
  · have key : ∃ F2, SF B F2 Γ C τ σ ws H2 ∧ Same F F2 ∧ F2 c' = some (CodeO c' q) := by
      rcases l with ⟨rfl, pos, hpos⟩ | ⟨ps', t1, t2, t3, rfl⟩
      · obtain ⟨c, g1, g2⟩ := hc pos _ hpos
        cases g1
        exact ⟨F, s, Same.refl F, g2⟩
      · obtain ⟨hf2, sF, sH⟩ := s.hf.laid (o := CodeO c' q) t3
        have hw := hf2.write (c' := .tab q) (o' := .tbl ps') hk ⟨ps', rfl, t1, fun p cv hcv => by
          rcases t2 p cv hcv with z | z
          · obtain ⟨c, g1, g2⟩ := hc p cv z
            exact ⟨c, g1, sF _ _ g2⟩
          · exact ⟨c', z, upd_same⟩⟩
        have ncP : c' ≠ P := fun z => by rw [z, hP'] at t3; cases t3
        have eH : upd (upd H c' (CodeO c' q)) P (.tbl ps') = upd (upd H P (.tbl ps')) c' (CodeO c' q) := by
          funext b
          by_cases b1 : b = P
          · subst b1; rw [upd_same, upd_ne (Ne.symm ncP), upd_same]
          · rw [upd_ne b1]
            by_cases b2 : b = c'
            · subst b2; rw [upd_same, upd_same]
            · rw [upd_ne b2, upd_ne b2, upd_ne b1]
        have eC : C.set k (P, .tab q) = C := by
          apply List.ext_getElem?
          intro j
          by_cases hj : k = j
          · subst hj
            rw [List.getElem?_set_self (List.getElem?_eq_some_iff.mp hk).1, hk]
          · rw [List.getElem?_set_ne hj]
        rw [eC, eH] at hw
        exact ⟨_, ⟨hw, s.slots.slots_mono sF, s.temps.temps_mono sF⟩, sF, upd_same⟩
    obtain ⟨F2, s2, sF, hc3⟩ := key
    obtain ⟨hf4, sF4, _⟩ := s2.hf.laid (o := LkO q vn fld f c') hf
    exact qq _ _ (ST.push (s2.to sF4 hf4) ⟨f, c', rfl, upd_same, sF4 _ _ hc3⟩)
/-- the lambda -/
theorem ev_look2 {P : Addr} {q vn fld fl2 : Str} {k : Nat} (hk : C[k]? = some (P, .tab q)) : Ev B (tLook2 P q vn fld fl2) Γ C (tv (Lk.mk q vn [fld, fl2])) C := fun τ σ ws H ⟨F, s⟩ Q qq => by
  obtain ⟨_, ⟨o, hP, ps, rfl, ht, hc⟩, _⟩ := s.hf.cells _ (List.mem_of_getElem? hk)
  have hP' : H P = some (.tbl ps) := hP
  refine ⟨ps, ⟨hP, ht, fun p cv hcv => ?_⟩, fun H2 f c' l hf => ?_⟩
  · obtain ⟨c, g1, g2⟩ := hc p cv hcv
    exact ⟨c, g1, s.hf.sub _ _ g2⟩
  · have key : ∃ F2, SF B F2 Γ C τ σ ws H2 ∧ Same F F2 ∧ F2 c' = some (CodeO c' q) := by
      rcases l with ⟨rfl, pos, hpos⟩ | ⟨ps', t1, t2, t3, rfl⟩
      · obtain ⟨c, g1, g2⟩ := hc pos _ hpos
        cases g1
        exact ⟨F, s, Same.refl F, g2⟩
      · obtain ⟨hf2, sF, sH⟩ := s.hf.laid (o := CodeO c' q) t3
        have hw := hf2.write (c' := .tab q) (o' := .tbl ps') hk ⟨ps', rfl, t1, fun p cv hcv => by
          rcases t2 p cv hcv with z | z
          · obtain ⟨c, g1, g2⟩ := hc p cv z
            exact ⟨c, g1, sF _ _ g2⟩
          · exact ⟨c', z, upd_same⟩⟩
        have ncP : c' ≠ P := fun z => by rw [z, hP'] at t3; cases t3
        have eH : upd (upd H c' (CodeO c' q)) P (.tbl ps') = upd (upd H P (.tbl ps')) c' (CodeO c' q) := by
          funext b
          by_cases b1 : b = P
          · subst b1; rw [upd_same, upd_ne (Ne.symm ncP), upd_same]
          · rw [upd_ne b1]
            by_cases b2 : b = c'
            · subst b2; rw [upd_same, upd_same]
            · rw [upd_ne b2, upd_ne b2, upd_ne b1]
        have eC : C.set k (P, .tab q) = C := by
          apply List.ext_getElem?
          intro j
          by_cases hj : k = j
          · subst hj
            rw [List.getElem?_set_self (List.getElem?_eq_some_iff.mp hk).1, hk]
          · rw [List.getElem?_set_ne hj]
        rw [eC, eH] at hw
        exact ⟨_, ⟨hw, s.slots.slots_mono sF, s.temps.temps_mono sF⟩, sF, upd_same⟩
    obtain ⟨F2, s2, sF, hc3⟩ := key
    obtain ⟨hf4, sF4, _⟩ := s2.hf.laid (o := LkO2 q vn fld fl2 f c') hf
    exact qq _ _ (ST.push (s2.to sF4 hf4) ⟨f, c', rfl, upd_same, sF4 _ _ hc3⟩)
/-- look(e) -/
theorem evn_lookC {i : Nat} {q0 vn fld : Str} {e : EV} {v : Vid D} (hi : Γ[i]? = some (some (tv (Lk.mk q0 vn [fld])))) (ha : EvA B ca Γ C [tv e] C1) (hvd : (vn == ("__debug__" : Str)) = false)
    (hb : ∀ (p1 a1 a2 a3 : Pos) (pm ctv cd a : Value), bindArgs (PySem.W.kla_fn "<lambda>" q0 (lamA vn p1) (lookB vn fld a1 a2 a3) (lookS vn) [] pm cd ctv) ⟨[a], []⟩ = pure [(vn, a)])
    (hl : e.fs.lookup fld = some v) (T : XfC B.K e.C) (hno : PySem.W.findIn B.K (.ref e.C) fld = some none) : EvN B (tLookC B.K i ca) Γ C (.lst [v]) C1 := fun τ σ ws H st Q q => by
  obtain ⟨F0, s0⟩ := st
  obtain ⟨u, h1, h2⟩ := s0.slots.get hi
  obtain ⟨w, rfl, f, c', rfl, g1, g2⟩ := h2 _ rfl
  refine ⟨f, c', q0, vn, fld, h1, s0.hf.sub _ _ g1, hvd, hb, ha (tv (Lk.mk q0 vn [fld]) :: τ) σ (.ref f :: ws) H ⟨F0, s0.hf, s0.slots, .cons ⟨f, c', rfl, g1, g2⟩ s0.temps⟩ _ fun vs H1 s1 hlen => ?_⟩
  obtain ⟨F, s2, hv⟩ := EvA.out s1 hlen
  cases hv with
  | cons k1 k2 =>
    cases k2
    obtain ⟨a, dx, rfl, ea, hd⟩ := k1
    cases s2.temps with
    | cons t1 t2 =>
      obtain ⟨f', c2, ef, g3, g4⟩ := t1
      cases ef
      rcases hd with ⟨_, e0⟩ | ⟨d, us, rfl, ed, hfs⟩
      · rw [e0] at hl; cases hl
      · obtain ⟨v', hv', rv⟩ := evFld_lookup hfs hl
        refine ⟨a, e.C, d, c2, us, v', rfl, s2.hf.sub _ _ g3, s2.hf.sub _ _ g4, s2.hf.sub _ _ ea, s2.hf.sub _ _ ed, hv', T, hno, fun p hp => ?_⟩
        exact q p _ (s2.hf.free hp).2.2 (s2.hf.free hp).2.1 ⟨F, (s2.hf.cell (c := .lst [v]) hp ⟨[v'], rfl, .cons rv .nil⟩).1, s2.slots, t2⟩
/-- look(e) -/
theorem evn_lookC2 {i : Nat} {q0 vn fld fl2 : Str} {e : EV} {v v2 : Vid D} (hi : Γ[i]? = some (some (tv (Lk.mk q0 vn [fld, fl2])))) (ha : EvA B ca Γ C [tv e] C1) (hvd : (vn == ("__debug__" : Str)) = false)
    (hb : ∀ (p1 a1 a2 b1 b2 a3 : Pos) (pm ctv cd a : Value), bindArgs (PySem.W.kla_fn "<lambda>" q0 (lamA vn p1) (lookB2 vn fld fl2 a1 a2 b1 b2 a3) (lookS vn) [] pm cd ctv) ⟨[a], []⟩ = pure [(vn, a)])
    (hl : e.fs.lookup fld = some v) (hl2 : e.fs.lookup fl2 = some v2) (T : XfC B.K e.C) (hno : PySem.W.findIn B.K (.ref e.C) fld = some none) (hno2 : PySem.W.findIn B.K (.ref e.C) fl2 = some none) : EvN B (tLookC2 B.K i ca) Γ C (.lst [v, v2]) C1 := fun τ σ ws H st Q q => by
  obtain ⟨F0, s0⟩ := st
  obtain ⟨u, h1, h2⟩ := s0.slots.get hi
  obtain ⟨w, rfl, f, c', rfl, g1, g2⟩ := h2 _ rfl
  refine ⟨f, c', q0, vn, fld, fl2, h1, s0.hf.sub _ _ g1, hvd, hb, ha (tv (Lk.mk q0 vn [fld, fl2]) :: τ) σ (.ref f :: ws) H ⟨F0, s0.hf, s0.slots, .cons ⟨f, c', rfl, g1, g2⟩ s0.temps⟩ _ fun vs H1 s1 hlen => ?_⟩
  obtain ⟨F, s2, hv⟩ := EvA.out s1 hlen
  cases hv with
  | cons k1 k2 =>
    cases k2
    obtain ⟨a, dx, rfl, ea, hd⟩ := k1
    cases s2.temps with
    | cons t1 t2 =>
      obtain ⟨f', c2, ef, g3, g4⟩ := t1
      cases ef
      rcases hd with ⟨_, e0⟩ | ⟨d, us, rfl, ed, hfs⟩
      · rw [e0] at hl; cases hl
      · obtain ⟨v', hv', rv⟩ := evFld_lookup hfs hl
        obtain ⟨v2', hv2', rv2⟩ := evFld_lookup hfs hl2
        refine ⟨a, e.C, d, c2, us, v', v2', rfl, s2.hf.sub _ _ g3, s2.hf.sub _ _ g4, s2.hf.sub _ _ ea, s2.hf.sub _ _ ed, hv', hv2', T, hno, hno2, fun p hp => ?_⟩
        exact q p _ (s2.hf.free hp).2.2 (s2.hf.free hp).2.1 ⟨F, (s2.hf.cell (c := .lst [v, v2]) hp ⟨[v', v2'], rfl, .cons rv (.cons rv2 .nil)⟩).1, s2.slots, t2⟩
/-- C(), C(x, y), C(text = x, line = y) -/
theorem ev_err0 {Cc : Addr} : Ev B (tErr0 Cc) Γ C (tv (EV.mk Cc [])) C := fun τ σ ws H ⟨F, s⟩ Q q => fun e he => by
  obtain ⟨hf1, sF1, _⟩ := s.hf.laid (o := exo e Cc none) he
  exact q _ _ (ST.push (s.to sF1 hf1) ⟨e, none, rfl, upd_same, .inl ⟨rfl, rfl⟩⟩)
theorem ev_err2 {v v2 : Vid D} {Cc : Addr} (ha : EvA B ca Γ C [tv v, tv v2] C1) : Ev B (tErr2 Cc ca) Γ C (tv (EV.mk Cc [("line", v2), ("text", v)])) C1 := fun τ σ ws H st Q q =>
  ha τ σ ws H st _ fun vs H1 s1 hl => by
    obtain ⟨F, s2, hv⟩ := EvA.out s1 hl
    cases hv with
    | @cons u _ _ _ h1 hv => cases hv with
      | @cons u2 _ _ _ h2 hv =>
        cases hv
        refine ⟨u, u2, rfl, fun e d hne he hd => ?_⟩
        obtain ⟨hf1, sF1, sH1⟩ := s2.hf.laid (o := exo e Cc (some d)) he
        obtain ⟨hf2, sF2, sH2⟩ := hf1.laid (p := d) (o := .xd [("line", u2), ("text", u)]) (by rw [upd_ne (Ne.symm hne)]; exact hd)
        refine q _ _ (ST.push (s2.to (sF1.trans sF2) hf2) ⟨e, some d, rfl, sF2 _ _ upd_same, .inr ⟨d, _, rfl, upd_same, .cons ⟨rfl, Rp.mono (sF1.trans sF2) h2⟩ (.cons ⟨rfl, Rp.mono (sF1.trans sF2) h1⟩ .nil)⟩⟩)
theorem evn_altL (h : EvN B ta Γ C c C1) : EvN B (tOrE ta tc) Γ C c C1 := fun τ σ ws H st Q q => .inl (h τ σ ws H st Q q)
theorem evn_altR (h : EvN B tc Γ C c C1) : EvN B (tOrE ta tc) Γ C c C1 := fun τ σ ws H st Q q => .inr (h τ σ ws H st Q q)
end
end T
set_option Elab.async false
set_option linter.all false
set_option maxRecDepth 100000
set_option maxHeartbeats 2000000
set_option autoImplicit false
namespace T
open PySem PySem.Spec PyProof.Rows L2 LamX
open PySem.W (Frag)
instance (i j : Int) : Decidable (CDivW i j) := inferInstanceAs (Decidable (_ ∧ _))
def fdivWO (i j : Int) : Option Int := if CDivW i j then some (i / j) else none
theorem fdivWO_some {i j r : Int} (h : fdivWO i j = some r) : r = i / j ∧ CDivW i j := by
  unfold fdivWO at h
  split at h
  · cases h; exact ⟨rfl, by assumption⟩
  · cases h
/-- what is told for all very objects -/
noncomputable def chkV {α : Type} (f : α → Option Unit) : Option Unit := open Classical in if ∀ v, f v = some () then some () else none
theorem chkV_some {α : Type} {f : α → Option Unit} {u : Unit} (h : chkV f = some u) (v : α) : f v = some u := by
  unfold chkV at h
  split at h
  · rename_i q; exact q v
  · cases h
theorem chkV_ok {α : Type} {f : α → Option Unit} (h : ∀ v, f v = some ()) : chkV f = some () := if_pos h
section
variable {B : Bs} {F F' : Hp} {Γ Γ' Γ2 : List Sl} {C C' C1 C2 C3 : Cs} {τ : List TV} {σ : St} {ws : List V} {H H' : Hp} {x y z : TV} {c : Ct} {b b' : Bool}
variable {ta tc te : TE} {ca : TA} {D' : EndT} {ts tu tw tb : TS} {wi : TI} {g : TG} {t u : TT} {js vs : List Nat}
theorem os_fdivW {i j : Int} (h : CDivW i j) : OpS B C (rI CDivW fun i j => .int (i / j)) (tv i) (tv j) (tv (i / j)) := os_I h fun _ _ => rfl
/-- dict(a list of pairs) -/
def dOf {κ α : Type} [DecidableEq κ] (xs : List (κ × α)) : List (κ × α) := xs.foldl (fun acc p => dput acc p.1 p.2) []
theorem merge_ok {κ α : Type} [Kv κ] [DecidableEq κ] [Rp α] {K : Frag} {F : Hp} : ∀ {ms : List (Key × V)} {xs : List (κ × α)} {ps : List (Key × V)} {kvs : List (κ × α)}, All2 (KvOk K F) ms xs → All2 (KvOk K F) ps kvs → All2 (KvOk K F) (mergeK ps ms) (xs.foldl (fun acc p => dput acc p.1 p.2) kvs)
  | _, _, _, _, .nil, h => h
  | m :: ms, x :: xs, _, _, .cons r t, h => by
    obtain ⟨k, v⟩ := m
    obtain ⟨r1, r2⟩ := r
    dsimp only at r1 r2
    subst r1
    show All2 (KvOk K F) (mergeK (putK _ (Ky.key x.1) v) ms) (xs.foldl (fun acc p => dput acc p.1 p.2) (dput _ x.1 x.2))
    exact merge_ok t (put_ok h r2)
theorem pairs_split {κ α : Type} [Kv κ] [DecidableEq κ] [Rp α] {K : Frag} {F H : Hp} (sF : Sub F H) : ∀ {vs : List V} {xs : List (κ × α)}, All2 (Rp.rp K F) vs xs → ∃ (ps : List Addr) (ms : List (Key × V)), vs = ps.map V.ref ∧ Paired (fun p kv => SqT K H p [kV kv.1, kv.2]) ps ms ∧ All2 (KvOk K F) ms xs
  | _, _, .nil => ⟨[], [], rfl, .nil, .nil⟩
  | _, _, .cons h t => by
    obtain ⟨ps, ms, rfl, h1, h2⟩ := pairs_split sF t
    obtain ⟨a, v1, v2, rfl, e, r1, r2⟩ := h
    have e1 := Sc.val r1
    subst e1
    refine ⟨a :: ps, (Ky.key _, v2) :: ms, rfl, .cons ?_ h1, .cons ⟨rfl, r2⟩ h2⟩
    show SqT K H a [kV (Ky.key _), v2]
    rw [← Kv.kv]
    exact .inl (.inl (sF _ _ e))
theorem cn_dictP {κ α : Type} [Kv κ] [DecidableEq κ] [Rp α] {xs : List (κ × α)} (h : Ls B C x xs) : CbN B C (fun xs H Q => ∃ (a : Addr) (ps : List Addr) (kvs : List (Key × V)), xs = [.ref a] ∧ SqL B.K H a (ps.map V.ref) ∧ Paired (fun p kv => SqT B.K H p [kV kv.1, kv.2]) ps kvs ∧ ∀ p, H p = none → Q (.ref p) (upd H p (.dK (mergeK [] kvs)))) [x] (.dct (dOf xs)) := fun F H vs hf hv Q q => by
  cases hv with
  | cons h1 h2 =>
    cases h2
    obtain ⟨a, us, rfl, hr, r⟩ := h F H _ hf h1
    obtain ⟨ps, ms, rfl, g1, g2⟩ := pairs_split hf.sub r
    exact ⟨a, ps, ms, rfl, .inl hr, g1, fun p hp => q p _ hp ⟨_, rfl, merge_ok g2 .nil⟩⟩
/-- a new dict with int keys as a thing -/
theorem dk_of {α : Type} [AsD α] {K : Frag} {F : Hp} : ∀ {ps : List (Key × V)} {kvs : List (Int × α)}, All2 (KvOk K F) ps kvs → DkOk K F ps (kvs.map fun p => ((.inl p.1 : Key), AsD.toD p.2))
  | _, _, .nil => .nil
  | p :: ps, q :: kvs, .cons h t => by
    obtain ⟨pk, pv⟩ := p
    obtain ⟨h1, h2⟩ := h
    dsimp only at h1 h2
    subst h1
    exact .cons (AsD.okD h2) (dk_of t)
theorem ev_dct {α : Type} [AsD α] {kvs : List (Int × α)} (h : EvN B te Γ C (.dct kvs) C1) : Ev B te Γ C (tv (D.dct (kvs.map fun p => ((.inl p.1 : Key), AsD.toD p.2)))) C1 := fun τ σ ws H st Q q =>
  h τ σ ws H st _ fun p H1 hB hP ⟨F, s1⟩ => by
    obtain ⟨o, h1, ⟨ps, rfl, h2⟩, sF, h3⟩ := s1.hf.freeze hB
    have h2' : All2 (KvOk B.K F) ps kvs := h2
    exact q _ _ (ST.push ⟨h3, s1.slots.slots_mono sF, s1.temps.temps_mono sF⟩ (.dct upd_same (DkOk.mono sF _ (dk_of h2'))))
end
end T
set_option Elab.async false
set_option linter.all false
set_option maxRecDepth 100000
set_option maxHeartbeats 2000000
set_option autoImplicit false
namespace T
open PySem PySem.Spec PyProof.Rows L2
open PySem.W (Frag TotalLe dataLe keyToks keyToksAll sort_pairwise sortLe_total)
/-! ### sorts by data: unlike things have unlike signs -/
class Inj (α : Type) [Dat α] : Prop where
  inj : ∀ {x y : α} {l m : List (Int ⊕ List Nat)}, keyToks (Dat.enc x) ++ l = keyToks (Dat.enc y) ++ m → x = y ∧ l = m
instance : Inj Int := ⟨fun {x y l m} h => by
  have h : (Sum.inl x : Int ⊕ List Nat) :: l = Sum.inl y :: m := by
    have e : ∀ z : Int, keyToks (Dat.enc z) = [Sum.inl z] := fun z => by show keyToks (.int z) = _; rw [keyToks]
    rwa [e, e] at h
  injection h with h1 h2
  injection h1 with h1
  exact ⟨h1, h2⟩⟩
instance : Inj Str := ⟨fun {x y l m} h => by
  have h : (Sum.inr x.cps.toList : Int ⊕ List Nat) :: l = Sum.inr y.cps.toList :: m := by
    have e : ∀ z : Str, keyToks (Dat.enc z) = [Sum.inr z.cps.toList] := fun z => by show keyToks (.str z) = _; rw [keyToks]
    rwa [e, e] at h
  injection h with h1 h2
  injection h1 with h1
  exact ⟨PySem.W.str_of_cps h1, h2⟩⟩
theorem toks_inj {α : Type} [Dat α] [Inj α] : ∀ (xs ys : List α) (l m : List (Int ⊕ List Nat)), keyToksAll (xs.map Dat.enc) ++ l = keyToksAll (ys.map Dat.enc) ++ m → xs = ys ∧ l = m
  | [], [], l, m, h => by
    rw [List.map_nil, keyToksAll] at h
    exact ⟨rfl, (List.cons.inj h).2⟩
  | [], y :: ys, l, m, h => by
    rw [List.map_nil, List.map_cons, keyToksAll, keyToksAll] at h
    have := (List.cons.inj h).1
    injection this with this
    exact absurd this (by decide)
  | x :: xs, [], l, m, h => by
    rw [List.map_nil, List.map_cons, keyToksAll, keyToksAll] at h
    have := (List.cons.inj h).1
    injection this with this
    exact absurd this (by decide)
  | x :: xs, y :: ys, l, m, h => by
    rw [List.map_cons, List.map_cons, keyToksAll, keyToksAll, List.cons_append, List.cons_append, List.append_assoc, List.append_assoc] at h
    obtain ⟨e1, e2⟩ := Inj.inj (List.cons.inj h).2
    obtain ⟨e3, e4⟩ := toks_inj xs ys l m e2
    rw [e1, e3]
    exact ⟨rfl, e4⟩
instance {α : Type} [Dat α] [Inj α] : Inj (List α) := ⟨fun {x y l m} h => by
  have e : ∀ z : List α, keyToks (Dat.enc z) = keyToksAll (z.map Dat.enc) := fun z => by show keyToks (.list _) = _; rw [keyToks]
  rw [e, e] at h
  exact toks_inj _ _ _ _ h⟩
instance {α : Type} [Dat α] [Inj α] : Inj (Tp α) := ⟨fun {x y l m} h => by
  have e : ∀ z : Tp α, keyToks (Dat.enc z) = keyToksAll (z.l.map Dat.enc) := fun z => by show keyToks (.tuple _) = _; rw [keyToks]
  rw [e, e] at h
  obtain ⟨e1, e2⟩ := toks_inj _ _ _ _ h
  cases x; cases y
  exact ⟨congrArg Tp.mk e1, e2⟩⟩
/-! ### the words of the mirrors, run -/
theorem foldO_inv {α σ : Type} {f : σ → α → Option σ} (I : List α → σ → Prop) : ∀ (xs pre : List α) (s : σ), I pre s →
    (∀ p a s, (∃ q, pre ++ xs = p ++ a :: q) → I p s → ∃ s', f s a = some s' ∧ I (p ++ [a]) s') → ∃ r, foldO f s xs = some r ∧ I (pre ++ xs) r
  | [], pre, s, h, _ => ⟨s, rfl, by rwa [List.append_nil]⟩
  | a :: xs, pre, s, h, hs => by
    obtain ⟨s', e, h'⟩ := hs pre a s ⟨xs, rfl⟩ h
    obtain ⟨r, e2, h2⟩ := foldO_inv I xs (pre ++ [a]) s' h' fun p b s hp hI => hs p b s (by rwa [List.append_assoc, List.singleton_append] at hp) hI
    refine ⟨r, ?_, by rwa [List.append_assoc, List.singleton_append] at h2⟩
    show (f s a).bind _ = _
    rw [e]
    exact e2
/-- each turn done -/
theorem foldO_ok {α σ : Type} {f : σ → α → Option σ} (I : List α → σ → Prop) {xs : List α} {s : σ} (h0 : I [] s)
    (hs : ∀ p a s, (∃ q, xs = p ++ a :: q) → I p s → ∃ s', f s a = some s' ∧ I (p ++ [a]) s') : ∃ r, foldO f s xs = some r ∧ I xs r := by
  have := foldO_inv (f := f) I xs [] s h0 (by simpa using hs)
  simpa using this
theorem lcO_run {α β : Type} {t : α → Option Bool} {e : α → Option β} {p : α → Bool} {g : α → β} : ∀ (xs : List α), (∀ a ∈ xs, t a = some (p a)) → (∀ a ∈ xs, p a = true → e a = some (g a)) → lcO t e xs = some ((xs.filter p).map g)
  | [], _, _ => rfl
  | a :: xs, ht, he => by
    have ih := lcO_run xs (fun b hb => ht b (List.mem_cons_of_mem _ hb)) (fun b hb => he b (List.mem_cons_of_mem _ hb))
    unfold lcO
    rw [ht a List.mem_cons_self]
    cases hp : p a with
    | true =>
      rw [List.filter_cons_of_pos hp, List.map_cons, ← Option.bind_some (f := fun l => some (g a :: l)), ← ih]
      simp [he a List.mem_cons_self hp]
      try rfl
    | false =>
      rw [List.filter_cons_of_neg (by rw [hp]; exact Bool.false_ne_true), ← ih]
      simp
theorem lcL_pure {α β : Type} {t : α → Option Bool} {e : α → Option β} {p : α → Bool} {g : α → β} {xs : List α} (ht : ∀ a ∈ xs, t a = some (p a)) (he : ∀ a ∈ xs, p a = true → e a = some (g a)) (hl : xs.length ≤ 1000000) : lcL t e xs = some ((xs.filter p).map g) := by
  unfold lcL
  rw [lcO_run xs ht he]
  show lim _ = _
  unfold lim
  rw [if_pos]
  have := List.length_filter_le p xs
  rw [List.length_map, sizeLine_eq]
  omega
theorem mem_rng {a lo hi : Int} : a ∈ rng lo hi ↔ lo ≤ a ∧ a < hi := by
  unfold rng
  constructor
  · intro h
    obtain ⟨i, hi, rfl⟩ := List.mem_map.mp h
    have := List.mem_range.mp hi
    omega
  · intro h
    refine List.mem_map.mpr ⟨(a - lo).toNat, List.mem_range.mpr (by omega), by omega⟩
theorem rngO_small {lo hi : Int} (h1 : -1000000 ≤ lo) (h2 : lo ≤ 1000000) (h3 : -1000000 ≤ hi) (h4 : hi ≤ 1000000) : rngO lo hi = some (rng lo hi) := by
  unfold rngO
  rw [if_pos (by omega)]
theorem appO_small {α : Type} {xs : List α} {x : α} (h : xs.length ≤ 1000000) : appO xs x = some (xs ++ [x]) := by
  unfold appO
  rw [if_pos (by rw [sizeLine_eq]; omega)]
theorem dput_keys {κ α : Type} [DecidableEq κ] {kvs : List (κ × α)} {k : κ} {v : α} : (dput kvs k v).map (·.1) = if k ∈ kvs.map (·.1) then kvs.map (·.1) else kvs.map (·.1) ++ [k] := by
  unfold dput
  by_cases h : k ∈ kvs.map (·.1)
  · have h2 : (kvs.any fun kv => decide (kv.1 = k)) = true := by
      obtain ⟨kv, h1, h2⟩ := List.mem_map.mp h
      exact List.any_eq_true.mpr ⟨kv, h1, decide_eq_true h2⟩
    rw [if_pos h2, if_pos h, List.map_map]
    refine List.map_congr_left fun kv _ => ?_
    show (if kv.1 = k then (kv.1, v) else kv).1 = kv.1
    split <;> rfl
  · have h2 : ¬ (kvs.any fun kv => decide (kv.1 = k)) = true := fun z => by
      obtain ⟨kv, h1, h2⟩ := List.any_eq_true.mp z
      exact h (List.mem_map.mpr ⟨kv, h1, of_decide_eq_true h2⟩)
    rw [if_neg h2, if_neg h, List.map_append]
    rfl
theorem dput_length {κ α : Type} [DecidableEq κ] {kvs : List (κ × α)} {k : κ} {v : α} : (dput kvs k v).length ≤ kvs.length + 1 := by
  have := congrArg List.length (dput_keys (kvs := kvs) (k := k) (v := v))
  split at this <;> simp at this <;> omega
end T
set_option Elab.async false
set_option linter.all false
set_option maxRecDepth 100000
set_option maxHeartbeats 4000000
set_option autoImplicit false
namespace K00
open PySem PySem.Spec PyProof.Rows L2 T
open PySem.W (Frag)
def topS (i : Nat) : Stmt := PySem.Challenge.pw_eachfive_k00_errors_made.main.body.getD i (.Pass ⟨0, 0, 0, 0⟩)
variable {P : Program} {w : World} {K : PySem.W.Frag} {mg : Str → Option Value} {base : Heap}
/-! _law_same: two equal things -/
abbrev s__law_same : Stmt := topS 66
abbrev N__law_same : List Str := ["found", "due", "is_alike", "one", "other"]
theorem sc__law_same : FnScope N__law_same ["found", "due"] (defScope s__law_same) := ⟨rfl, rfl, rfl, by decide +kernel, rfl, by decide +kernel, by decide +kernel⟩
def S_same (n : Nat) : SpecV := fun args C r C' => ∃ (t1 t2 : TV) (d : D), args = [t1, t2] ∧ C = [] ∧ Dyn t1 d ∧ Dyn t2 d ∧ d.nod = true ∧ d.dp < n ∧ r = tv true ∧ C' = []
structure Z__law_same (K : Frag) (mg : Str → Option Value) where
  n_isinstance : mg "isinstance" = none
  n_dict : mg "dict" = none
  n_list : mg "list" = none
  n_tuple : mg "tuple" = none
  n_bool : mg "bool" = none
  n_int : mg "int" = none
  n_str : mg "str" = none
  n_len : mg "len" = none
  n_all : mg "all" = none
  n_zip : mg "zip" = none
theorem w__law_same {f : Addr} {fd : FuncData} (Z : Z__law_same K mg) (F : Fun K "_law_same" "_law_same" s__law_same f fd) (b : Binds K fd ["found", "due"] []) (g : mg "_law_same" = some (.ref f)) : ∀ n, FnOk P w K mg base CX0 n f fd ["found", "due"] (SpV (S_same n) K)
  | 0 => ⟨fun _ _ _ _ ⟨_, _, _, _, _, ⟨_, _, _, _, _, _, _, _, h, _⟩, _⟩ => by omega, fun _ _ _ _ _ _ _ _ _ _ _ _ _ ⟨_, _, _, _, _, ⟨_, _, _, _, _, _, _, _, h, _⟩, _⟩ => by omega⟩
  | n + 1 => by
    have ih : FnOk P w K mg base CX0 n f fd ["found", "due"] (SpV (S_same n) K) := w__law_same Z F b g n
    refine F.ok sc__law_same (len_v fun args C r C' h => by obtain ⟨_, _, _, rfl, _⟩ := h; rfl) (fun cdv A outer s H vs Q E hr h => ?_)
    have nd := sc__law_same.nd
    refine ⟨_, (pss_cons (ps_if (pt_val (pe_callB call_isi (by rfl) Z.n_isinstance (by decide +kernel) (pa_cons (pv 1) (pa_cons (pe_bltn (v := .ty "dict") (by rfl) Z.n_dict (by decide +kernel) rfl) pa_nil)))) pss_no pss_nil)
      (pss_cons (ps_if (pt_val (pe_callB call_isiT (by rfl) Z.n_isinstance (by decide +kernel) (pa_cons (pv 1) (pa_cons (pe_tup (pa_cons (pe_bltn (v := .ty "list") (by rfl) Z.n_list (by decide +kernel) rfl) (pa_cons (pe_bltn (v := .ty "tuple") (by rfl) Z.n_tuple (by decide +kernel) rfl) pa_nil))) pa_nil))))
        (pss_cons (ps_if (PW.pt (pw_or (pt_cmpR op_ne (pe_callB call_isi (by rfl) Z.n_isinstance (by decide +kernel) (pa_cons (pv 0) (pa_cons (pe_bltn (v := .ty "list") (by rfl) Z.n_list (by decide +kernel) rfl) pa_nil))) (pe_callB call_isi (by rfl) Z.n_isinstance (by decide +kernel) (pa_cons (pv 1) (pa_cons (pe_bltn (v := .ty "list") (by rfl) Z.n_list (by decide +kernel) rfl) pa_nil))) (nomark _))
            (pw_or1 (pt_cmpR op_ne (pe_callB call_isi (by rfl) Z.n_isinstance (by decide +kernel) (pa_cons (pv 0) (pa_cons (pe_bltn (v := .ty "tuple") (by rfl) Z.n_tuple (by decide +kernel) rfl) pa_nil))) (pe_callB call_isi (by rfl) Z.n_isinstance (by decide +kernel) (pa_cons (pv 1) (pa_cons (pe_bltn (v := .ty "tuple") (by rfl) Z.n_tuple (by decide +kernel) rfl) pa_nil))) (nomark _))))) pss_no pss_nil)
        (pss_one (ps_ret (pe_and (pe_cmpR op_eq (pe_callB call_len_seq (by rfl) Z.n_len (by decide +kernel) (pa_cons (pv 0) pa_nil)) (pe_callB call_len_seq (by rfl) Z.n_len (by decide +kernel) (pa_cons (pv 1) pa_nil)) (nomark _))
          (pe_one (pe_callB (cr_all rfl) (by rfl) Z.n_all (by decide +kernel) (pa_cons (by exact (pe_lc (own := [("one", 3), ("other", 4)]) (g := gTup K 2 (gCons (gName 3) (gCons (gName 4) gNil))) rfl nd (RZ.pi_zipA rfl Z.n_zip (pa_cons (pv 0) (pa_cons (pv 1) pa_nil))) (blkOk_by (own := [("one", 3), ("other", 4)]) (N := N__law_same) (sc := defScope s__law_same) (by decide +kernel))
            (fun _ _ _ _ _ => pg_tup rfl (pgs_cons (pg_name (i := 3) nd rfl (by first | exact .inl rfl | exact .inr rfl)) (pgs_cons (pg_name (i := 4) nd rfl (by first | exact .inl rfl | exact .inr rfl)) pgs_nil))) (fun _ _ _ _ _ => pts_nil)
            (fun _ _ _ _ _ => pe_call ih hr (by rfl) g F.kp b .nil pass0 (pa_cons (pv 3) (pa_cons (pv 4) pa_nil))))) pa_nil))))))) pss_nil)
      (pss_cons (ps_set (i := 2) nd rfl (by first | exact .inl rfl | exact .inr rfl) (pe_and (pe_cmpR op_eq (pe_callB call_isi (by rfl) Z.n_isinstance (by decide +kernel) (pa_cons (pv 0) (pa_cons (pe_bltn (v := .ty "bool") (by rfl) Z.n_bool (by decide +kernel) rfl) pa_nil))) (pe_callB call_isi (by rfl) Z.n_isinstance (by decide +kernel) (pa_cons (pv 1) (pa_cons (pe_bltn (v := .ty "bool") (by rfl) Z.n_bool (by decide +kernel) rfl) pa_nil))) (nomark _))
          (pe_one (pe_cmpR op_eq (pe_callB call_isi (by rfl) Z.n_isinstance (by decide +kernel) (pa_cons (pv 0) (pa_cons (pe_bltn (v := .ty "int") (by rfl) Z.n_int (by decide +kernel) rfl) pa_nil))) (pe_callB call_isi (by rfl) Z.n_isinstance (by decide +kernel) (pa_cons (pv 1) (pa_cons (pe_bltn (v := .ty "int") (by rfl) Z.n_int (by decide +kernel) rfl) pa_nil))) (nomark _)))))
      (pss_cons (ps_if (PW.pt (pw_or (pt_val (pe_callB call_isiT (by rfl) Z.n_isinstance (by decide +kernel) (pa_cons (pv 0) (pa_cons (pe_tup (pa_cons (pe_bltn (v := .ty "dict") (by rfl) Z.n_dict (by decide +kernel) rfl) (pa_cons (pe_bltn (v := .ty "list") (by rfl) Z.n_list (by decide +kernel) rfl) (pa_cons (pe_bltn (v := .ty "tuple") (by rfl) Z.n_tuple (by decide +kernel) rfl) pa_nil)))) pa_nil))))
          (pw_or (pt_not (pt_val (pv 2))) (pw_or1 (pt_cmpR op_ne (pe_callB call_isi (by rfl) Z.n_isinstance (by decide +kernel) (pa_cons (pv 0) (pa_cons (pe_bltn (v := .ty "str") (by rfl) Z.n_str (by decide +kernel) rfl) pa_nil))) (pe_callB call_isi (by rfl) Z.n_isinstance (by decide +kernel) (pa_cons (pv 1) (pa_cons (pe_bltn (v := .ty "str") (by rfl) Z.n_str (by decide +kernel) rfl) pa_nil))) (nomark _)))))) pss_no pss_nil)
      (pss_one (ps_ret (pe_ifExp (pt_cmpR op_isN (pv 1) pe_non (nomark _)) (pe_cmpR op_isN (pv 0) pe_non (nomark _)) (pe_cmpR op_eq (pv 0) (pv 1) (nomark _))))))))), ?_⟩
    refine body_v h fun B args C r C' hK hP hS => ?_
    obtain ⟨t1, t2, d, rfl, rfl, y1, y2, hn, hdp, rfl, rfl⟩ := hS
    subst hK
    have isi0 : ∀ {n : String} {q : D → Bool}, IsK n q → ∀ {Γ : List Sl}, Γ[0]? = some (some t1) → Ev B (tCB (rIsi B.K) (tCons (tVar 0) (tCons (tC (.ty n)) tNil))) Γ [] (tv (q d)) [] := fun hk => fun hg => ev_cb (ea_cons (ev_var hg) (ea_cons ev_ty ea_nil)) (cs_isi y1 hk)
    have isi1 : ∀ {n : String} {q : D → Bool}, IsK n q → ∀ {Γ : List Sl}, Γ[1]? = some (some t2) → Ev B (tCB (rIsi B.K) (tCons (tVar 1) (tCons (tC (.ty n)) tNil))) Γ [] (tv (q d)) [] := fun hk => fun hg => ev_cb (ea_cons (ev_var hg) (ea_cons ev_ty ea_nil)) (cs_isi y2 hk)
    have nodct : d.isDct = false := by cases d <;> first | rfl | (simp [D.nod] at hn; done)
    refine ss_if (et_B (isi1 isk_dct rfl)) (fun c => by rw [nodct] at c; cases c) fun _ => ?_
    refine ss_skip ?_
    refine ss_if (et_B (ev_cb (ea_cons (ev_var rfl) (ea_cons (ev_tps (xs := [Ty.mk "list", Ty.mk "tuple"]) (ea_cons ev_ty (ea_cons ev_ty ea_nil)) (szn (by decide))) ea_nil)) (cs_isiT y2 (.cons isk_lst (.cons isk_tup .nil))))) (fun c => ?_) fun c => ?_
    · have hs : d.isSeq = true := by cases d <;> first | rfl | (simp [D.isLst, D.isTup] at c; done)
      refine ss_assoc ?_
      refine ss_if (et_or (et_test (ev_op (isi0 isk_lst rfl) (isi1 isk_lst rfl) os_ne)) fun _ => et_test (ev_op (isi0 isk_tup rfl) (isi1 isk_tup rfl) os_ne)) (fun c => by simp at c) fun _ => ?_
      refine ss_skip ?_
      refine ss_retS ?_
      have hl : lcL (fun (_ : D × D) => some true) (fun (_ : D × D) => some true) (d.items.zip d.items) = some ((d.items.zip d.items).map fun _ => true) := lcL_const (by have := (D.items_nod hn).2; rw [List.length_zip]; omega)
      refine ss_retV (ev_eq (ev_andV (ev_op (ev_cb (ea_cons (ev_var rfl) ea_nil) (cs_lenD2 y1 hs)) (ev_cb (ea_cons (ev_var rfl) ea_nil) (cs_lenD2 y2 hs)) os_eq) fun _ => (ev_cb (ea_cons (ev_of (evn_lcL hl (ei_zipA y1 y2 hs rfl (ea_cons (ev_var rfl) (ea_cons (ev_var rfl) ea_nil))) (js := [3, 4]) (by decide) (fun a b ha hb => ⟨_, tg_pair, fun _ m => et_is et_yes (some_eq hb), fun _ y hy _ m => ?_⟩))) ea_nil) (cs_all ls_val))) ?_) (List.nil_sublist _)
      · cases hy
        obtain ⟨e1, e2⟩ := zip_self ha
        exact ev_call (ea_cons (ev_var rfl) (ea_cons (ev_var rfl) ea_nil)) ⟨_, _, a.1, rfl, rfl, dyn_of, by rw [e1]; exact dyn_of, D.nod_mem e2 (D.items_nod hn).1, by have := D.items_dp e2; omega, rfl, rfl⟩
      · simp
    · refine ss_skip ?_
      have hs : d.isSeq = false := by cases d <;> first | rfl | (simp [D.isLst, D.isTup] at c; done)
      refine ss_set (ev_andV (ev_op (isi0 isk_bool rfl) (isi1 isk_bool rfl) os_eq) fun _ => ev_op (isi0 isk_int rfl) (isi1 isk_int rfl) os_eq) ?_
      refine ss_if (et_or (et_B (ev_cb (ea_cons (ev_var rfl) (ea_cons (ev_tps (xs := [Ty.mk "dict", Ty.mk "list", Ty.mk "tuple"]) (ea_cons ev_ty (ea_cons ev_ty (ea_cons ev_ty ea_nil))) (szn (by decide))) ea_nil)) (cs_isiT y1 (.cons isk_dct (.cons isk_lst (.cons isk_tup .nil)))))) fun _ => et_or (et_not (et_B (ev_var rfl))) fun _ => et_test (ev_op (isi0 isk_str rfl) (isi1 isk_str rfl) os_ne)) (fun c => ?_) fun _ => ?_
      · exfalso
        cases d <;> simp [D.isLst, D.isTup, D.isDct, D.isSeq, D.nod] at c hs hn
      · refine ss_skip ?_
        refine ss_end ?_
        refine ss_retS ?_
        refine ss_retV (ev_if (et_test (ev_op (ev_var rfl) ev_non (os_isNone y2))) (fun c => ev_eq (ev_op (ev_var rfl) ev_non (os_isNone y1)) c) fun c => ev_op (ev_var rfl) (ev_var rfl) (os_eqFlat y1 y2 hs hn)) (List.nil_sublist _)
/-! _law_very in a plain place -/
abbrev s__law_very : Stmt := topS 65
abbrev N__law_very : List Str := ["kept", "thing", "found"]
theorem sc__law_very : FnScope N__law_very ["kept", "thing"] (defScope s__law_very) := ⟨rfl, rfl, rfl, by decide +kernel, rfl, by decide +kernel, by decide +kernel⟩
/-- the very object: a flat thing, a list, a dict with int keys, a tuple that is not deep -/
def veryP : D → Bool
  | .tup ds => (D.tup ds).nod && decide ((D.tup ds).dp < 6)
  | .lst ds => decide (ds.length ≤ 1000000)
  | .dct kvs => decide (kvs.length ≤ 1000000) && kvs.all fun p => match p.1 with | .inl _ => true | _ => false
  | _ => true
def S_veryP : SpecV := fun args C r C' => ∃ (t1 t2 : TV) (v : V) (d : D), args = [t1, t2] ∧ C = [] ∧ Dyn t1 d ∧ Dyn t2 d ∧ (∀ K F u, t1.ok K F u → u = v) ∧ (∀ K F u, t2.ok K F u → u = v) ∧ veryP d = true ∧ r = tv true ∧ C' = []
theorem late_put {us : List (Key × V)} {v : V} (h : ∀ p ∈ us, ∃ n : Int, p.1 = .inl n) : putK us (.inr " late " : Key) v = us ++ [((.inr " late " : Key), v)] ∧ valV (us ++ [((.inr " late " : Key), v)]) (.inr " late ") = some v ∧ dropK (us ++ [((.inr " late " : Key), v)]) (.inr " late ") = us := by
  have ne : ∀ p ∈ us, ¬ p.1 = (.inr " late " : Key) := fun p hp e => by
    obtain ⟨n, hn⟩ := h p hp
    rw [hn] at e
    cases e
  refine ⟨?_, ?_, ?_⟩
  · unfold putK
    rw [if_neg]
    intro z
    obtain ⟨p, hp, hq⟩ := List.any_eq_true.mp z
    exact ne p hp (of_decide_eq_true hq)
  · unfold valV
    rw [List.find?_append, List.find?_eq_none.mpr fun p hp z => ne p hp (of_decide_eq_true z)]
    simp
  · unfold dropK
    rw [List.filter_append, List.filter_eq_self.mpr fun p hp => decide_eq_true (ne p hp)]
    simp
theorem dk_keys {K : Frag} {F : Hp} : ∀ {us : List (Key × V)} {kvs : List (Key × D)}, DkOk K F us kvs → us.map (·.1) = kvs.map (·.1)
  | _, _, .nil => rfl
  | _, _, .cons _ r => by rw [List.map_cons, List.map_cons, dk_keys r]
theorem dk_ints {K : Frag} {F : Hp} : ∀ {us : List (Key × V)} {kvs : List (Key × D)}, DkOk K F us kvs → veryP (.dct kvs) = true → (∀ p ∈ us, ∃ n : Int, p.1 = .inl n) ∧ us.length ≤ 1000000 := fun {us kvs} h vo => by
  have k := dk_keys h
  simp only [veryP, Bool.and_eq_true, decide_eq_true_eq, List.all_eq_true] at vo
  refine ⟨fun p hp => ?_, ?_⟩
  · have : p.1 ∈ kvs.map (·.1) := by rw [← k]; exact List.mem_map.mpr ⟨p, hp, rfl⟩
    obtain ⟨q, hq, e⟩ := List.mem_map.mp this
    have z := vo.2 q hq
    rw [e] at z
    cases hc : p.1 with
    | inl n => exact ⟨n, rfl⟩
    | inr s => rw [hc] at z; cases z
  · have := congrArg List.length k
    simp at this
    omega
theorem w__law_very {f f2 : Addr} {fd fd2 : FuncData} (Z : Z__law_same K mg) (F : Fun K "_law_very" "_law_very" s__law_very f fd) (F2 : Fun K "_law_same" "_law_same" s__law_same f2 fd2) (b : Binds K fd2 ["found", "due"] []) (g : mg "_law_same" = some (.ref f2)) : FnOk P w K mg base CX0 7 f fd ["kept", "thing"] (SpV S_veryP K) := by
  refine F.ok sc__law_very (len_v fun args C r C' h => by obtain ⟨_, _, _, _, rfl, _⟩ := h; rfl) (fun cdv A outer s H vs Q E hr h => ?_)
  have nd := sc__law_very.nd
  have hu := hu_of hr
  refine ⟨_, (pss_cons (ps_if (pt_val (pe_callB call_isi (by rfl) Z.n_isinstance (by decide +kernel) (pa_cons (pv 1) (pa_cons (pe_bltn (v := .ty "list") (by rfl) Z.n_list (by decide +kernel) rfl) pa_nil))))
        (pss_cons (ps_expr (pe_bm PySem.F.plainAttrs_list PySem.F.slot_list_append PySem.F.type_list_append mt_append (pv 1) (pa_cons pe_str pa_nil)))
        (pss_cons (ps_set (i := 2) nd rfl (by first | exact .inl rfl | exact .inr rfl) (pe_and (pe_callB call_isi (by rfl) Z.n_isinstance (by decide +kernel) (pa_cons (pv 0) (pa_cons (pe_bltn (v := .ty "list") (by rfl) Z.n_list (by decide +kernel) rfl) pa_nil)))
          (pe_and (pe_cmpR op_eq (pe_callB call_len_seq (by rfl) Z.n_len (by decide +kernel) (pa_cons (pv 0) pa_nil)) (pe_callB call_len_seq (by rfl) Z.n_len (by decide +kernel) (pa_cons (pv 1) pa_nil)) (nomark _))
          (pe_one (pe_cmpR op_eq (pe_ix ix_list (pv 0) (pe_un un_neg pe_int) (fun _ _ => rfl)) pe_str (nomark _))))))
        (pss_cons (ps_expr (pe_bm0 PySem.F.plainAttrs_list PySem.F.slot_list_pop PySem.F.type_list_pop mt_pop (pv 1)))
        (pss_one (ps_ret (pv 2)))))) pss_nil)
      (pss_cons (ps_if (pt_val (pe_callB call_isi (by rfl) Z.n_isinstance (by decide +kernel) (pa_cons (pv 1) (pa_cons (pe_bltn (v := .ty "dict") (by rfl) Z.n_dict (by decide +kernel) rfl) pa_nil))))
        (pss_cons (ps_dput hu (pv 1) pe_str pe_int rfl)
        (pss_cons (ps_set (i := 2) nd rfl (by first | exact .inl rfl | exact .inr rfl) (pe_and (pe_callB call_isi (by rfl) Z.n_isinstance (by decide +kernel) (pa_cons (pv 0) (pa_cons (pe_bltn (v := .ty "dict") (by rfl) Z.n_dict (by decide +kernel) rfl) pa_nil)))
          (pe_and (pe_cmpR op_eq (pe_callB cr_lenD (by rfl) Z.n_len (by decide +kernel) (pa_cons (pv 0) pa_nil)) (pe_callB cr_lenD (by rfl) Z.n_len (by decide +kernel) (pa_cons (pv 1) pa_nil)) (nomark _))
          (pe_one (pe_cmpR op_eq (pe_dget1 hu (pv 0) pe_str ⟨rfl, rfl, rfl, rfl⟩) pe_int (nomark _))))))
        (pss_cons (ps_expr (pe_dpop1 (pv 1) pe_str ⟨rfl, rfl, rfl, rfl⟩))
        (pss_one (ps_ret (pv 2)))))) pss_nil)
      (pss_cons (ps_if (PW.pt (pw_or (pt_val (pe_callB call_isiT (by rfl) Z.n_isinstance (by decide +kernel) (pa_cons (pv 1) (pa_cons (pe_tup (pa_cons (pe_bltn (v := .ty "tuple") (by rfl) Z.n_tuple (by decide +kernel) rfl) (pa_cons (pe_bltn (v := .ty "str") (by rfl) Z.n_str (by decide +kernel) rfl) (pa_cons (pe_bltn (v := .ty "bool") (by rfl) Z.n_bool (by decide +kernel) rfl) (pa_cons (pe_bltn (v := .ty "int") (by rfl) Z.n_int (by decide +kernel) rfl) pa_nil))))) pa_nil))))
          (pw_or1 (pt_cmpR op_isN (pv 1) pe_non (nomark _)))))
        (pss_one (ps_ret (pe_call (w__law_same (P := P) (w := w) (base := base) Z F2 b g 6) (hr.mono (by decide)) (by rfl) g F2.kp b .nil pass0 (pa_cons (pv 0) (pa_cons (pv 1) pa_nil))))) pss_nil)
      pss_no))), ?_⟩
  refine body_v h fun B args C r C' hK hP hS => ?_
  obtain ⟨t1, t2, v, d, rfl, rfl, y1, y2, i1, i2, vo, rfl, rfl⟩ := hS
  subst hK
  have isi1 : ∀ {n : String} {q : D → Bool}, IsK n q → ∀ {Γ : List Sl}, Γ[1]? = some (some t2) → Ev B (tCB (rIsi B.K) (tCons (tVar 1) (tCons (tC (.ty n)) tNil))) Γ [] (tv (q d)) [] := fun hk => fun hg => ev_cb (ea_cons (ev_var hg) (ea_cons ev_ty ea_nil)) (cs_isi y2 hk)
  have hres : ∀ (H : Hp) (a : Addr) (o u : HO), H a = some o → upd (upd H a u) a o = H := fun H a o u e => by
    funext b
    by_cases hb : b = a
    · subst hb; rw [upd_same, e]
    · rw [upd_ne hb, upd_ne hb]
  cases hd : d with
  | lst ds =>
    intro τ σ ws H1 ⟨F1, st⟩ E1 im
    obtain ⟨s0, e0, k0⟩ := st.slots.get (i := 0) (b := some t1) rfl
    obtain ⟨s1, e1, k1⟩ := st.slots.get (i := 1) (b := some t2) rfl
    obtain ⟨u0, rfl, o0⟩ := k0 _ rfl
    obtain ⟨u1, rfl, o1⟩ := k1 _ rfl
    obtain rfl := i1 _ _ _ o0
    obtain rfl := i2 _ _ _ o1
    have o := y2 _ _ _ o1
    rw [hd] at o
    cases o with
    | @lst a us _ e rr =>
      have hH : H1 a = some (.lst us) := st.hf.sub _ _ e
      have hl : us.length ≤ 1000000 := by
        have := rr.all2.length
        rw [hd] at vo
        simp [veryP] at vo
        have z : us.length = ds.length := this
        omega
      refine ⟨.ref a, e1, .ref a, .ty "list", .type "list", .type "list", true, rfl, .ty _, .base (.lst hH), kit_ty (by decide +kernel), true, rfl, ?_⟩
      refine ifT rfl ?_
      refine ⟨.ref a, e1, Or.inl ⟨rfl, us, .inl (.inl hH)⟩, a, us, .str " late ", rfl, rfl, hH, by rw [sizeLine_eq]; omega, ?_⟩
      refine ⟨.ref a, e0, .ref a, .ty "list", .type "list", .type "list", true, rfl, .ty _, .base (.lst upd_same), kit_ty (by decide +kernel), true, rfl, ?_⟩
      refine ifT rfl ?_
      refine ⟨.ref a, e0, a, us ++ [.str " late "], rfl, .inl (.inl (.inl upd_same)), .ref a, e1, a, us ++ [.str " late "], rfl, .inl (.inl (.inl upd_same)), by simp [scal], _, rfl, ?_⟩
      refine ifT (by simp) ?_
      refine ⟨.ref a, e0, 1, rfl, a, us ++ [.str " late "], -1, .str " late ", rfl, rfl, .inl (.inl upd_same), ?_, by simp [scal], ?_⟩
      · exact T.atI_lastT _ _
      · have e1' : (σ.set 2 (some (.bl (decide (V.str " late " = V.str " late ")))))[1]? = some (some (.ref a)) := by rw [List.getElem?_set_ne (by decide)]; exact e1
        refine ⟨.ref a, e1', Or.inl ⟨rfl, us ++ [.str " late "], .inl (.inl upd_same)⟩, a, us ++ [.str " late "], .str " late ", rfl, rfl, upd_same, by simp, ?_⟩
        rw [List.dropLast_concat, hres _ _ _ _ hH]
        refine ⟨.bl true, ?_, ?_⟩
        · rw [List.getElem?_set_self (by have := (List.getElem?_eq_some_iff.mp e1).1; have := st.slots.length; simp at this; omega)]
          simp
        · exact im.rt _ _ ⟨F1, st.hf, rfl⟩
  | dct kvs =>
    refine ss_if (et_B (isi1 isk_lst rfl)) (fun c => by rw [hd] at c; cases c) fun _ => ?_
    refine ss_skip ?_
    intro τ σ ws H1 ⟨F1, st⟩ E1 im
    obtain ⟨s0, e0, k0⟩ := st.slots.get (i := 0) (b := some t1) rfl
    obtain ⟨s1, e1, k1⟩ := st.slots.get (i := 1) (b := some t2) rfl
    obtain ⟨u0, rfl, o0⟩ := k0 _ rfl
    obtain ⟨u1, rfl, o1⟩ := k1 _ rfl
    obtain rfl := i1 _ _ _ o0
    obtain rfl := i2 _ _ _ o1
    have o := y2 _ _ _ o1
    rw [hd] at o vo
    cases o with
    | @dct a us _ e rr =>
      have hH : H1 a = some (.dK us) := st.hf.sub _ _ e
      obtain ⟨lk, ll⟩ := dk_ints rr vo
      have hlt : us.length < sizeLine := by rw [sizeLine_eq]; omega
      obtain ⟨p1, p2, p3⟩ := late_put (v := V.int 7) lk
      refine ⟨.ref a, e1, .ref a, .ty "dict", .type "dict", .type "dict", true, rfl, .ty _, .base (.dK hH), kit_ty (by decide +kernel), true, rfl, ?_⟩
      refine ifT rfl ?_
      refine ⟨.ref a, e1, a, _, rfl, DPut.k (k := .inr " late ") (v := .int 7) hH hlt, ?_⟩
      have hP : upd H1 a (.dK (putK us (.inr " late " : Key) (V.int 7))) a = some (.dK (us ++ [((.inr " late " : Key), V.int 7)])) := by rw [upd_same, p1]
      refine ⟨.ref a, e0, .ref a, .ty "dict", .type "dict", .type "dict", true, rfl, .ty _, .base (.dK hP), kit_ty (by decide +kernel), true, rfl, ?_⟩
      refine ifT rfl ?_
      refine ⟨.ref a, e0, a, rfl, _, .inl hP, .ref a, e1, a, rfl, _, .inl hP, by simp [scal], _, rfl, ?_⟩
      refine ifT (by simp) ?_
      refine ⟨.ref a, e0, a, rfl, .inl ⟨_, .inl hP⟩, some (.int 7), ?_, by simp [scal], ?_⟩
      · have z := DGet.k (k := (.inr " late " : Key)) hP
        rw [p2] at z
        exact z
      · have e1' : (σ.set 2 (some (.bl (decide ((some (V.int 7)).getD V.non = V.int 7)))))[1]? = some (some (.ref a)) := by rw [List.getElem?_set_ne (by decide)]; exact e1
        refine ⟨.ref a, e1', a, rfl, .inl ⟨_, .inl hP⟩, _, .inr " late ", .int 7, hP, rfl, p2, ?_⟩
        rw [p3, hres _ _ _ _ hH]
        refine ⟨.bl true, ?_, ?_⟩
        · rw [List.getElem?_set_self (by have := (List.getElem?_eq_some_iff.mp e1).1; have := st.slots.length; simp at this; omega)]
          simp
        · exact im.rt _ _ ⟨F1, st.hf, rfl⟩
  | tup ds =>
    refine ss_if (et_B (isi1 isk_lst rfl)) (fun c => by rw [hd] at c; cases c) fun _ => ?_
    refine ss_skip ?_
    refine ss_if (et_B (isi1 isk_dct rfl)) (fun c => by rw [hd] at c; cases c) fun _ => ?_
    refine ss_skip ?_
    refine ss_if (et_or (et_B (ev_cb (ea_cons (ev_var rfl) (ea_cons (ev_tps (xs := [Ty.mk "tuple", Ty.mk "str", Ty.mk "bool", Ty.mk "int"]) (ea_cons ev_ty (ea_cons ev_ty (ea_cons ev_ty (ea_cons ev_ty ea_nil)))) (szn (by decide))) ea_nil)) (cs_isiT y2 (.cons isk_tup (.cons isk_str (.cons isk_bool (.cons isk_int .nil))))))) fun _ => et_test (ev_op (ev_var rfl) ev_non (os_isNone y2))) (fun _ => ?_) (fun c => by rw [hd] at c; cases c)
    refine ss_retS ?_
    exact ss_retV (ev_call (ea_cons (ev_var rfl) (ea_cons (ev_var rfl) ea_nil)) ⟨_, _, d, rfl, rfl, y1, y2, by rw [hd] at vo ⊢; simp only [veryP, Bool.and_eq_true] at vo; exact vo.1, by rw [hd] at vo ⊢; simp only [veryP, Bool.and_eq_true, decide_eq_true_eq] at vo; exact vo.2, rfl, rfl⟩) (List.nil_sublist _)
  | _ =>
    refine ss_if (et_B (isi1 isk_lst rfl)) (fun c => by rw [hd] at c; cases c) fun _ => ?_
    refine ss_skip ?_
    refine ss_if (et_B (isi1 isk_dct rfl)) (fun c => by rw [hd] at c; cases c) fun _ => ?_
    refine ss_skip ?_
    refine ss_if (et_or (et_B (ev_cb (ea_cons (ev_var rfl) (ea_cons (ev_tps (xs := [Ty.mk "tuple", Ty.mk "str", Ty.mk "bool", Ty.mk "int"]) (ea_cons ev_ty (ea_cons ev_ty (ea_cons ev_ty (ea_cons ev_ty ea_nil)))) (szn (by decide))) ea_nil)) (cs_isiT y2 (.cons isk_tup (.cons isk_str (.cons isk_bool (.cons isk_int .nil))))))) fun _ => et_test (ev_op (ev_var rfl) ev_non (os_isNone y2))) (fun _ => ?_) (fun c => by rw [hd] at c; cases c)
    refine ss_retS ?_
    exact ss_retV (ev_call (ea_cons (ev_var rfl) (ea_cons (ev_var rfl) ea_nil)) ⟨_, _, d, rfl, rfl, y1, y2, by rw [hd]; simp [D.nod], by rw [hd]; simp [D.dp], rfl, rfl⟩) (List.nil_sublist _)
structure Adr where
  C_BadNames : Addr
  C_BadEights : Addr
  C_NoName : Addr
  C_BadLot : Addr
  C_BadFive : Addr
  C_BadImage : Addr
  C_BadNumber : Addr
  C_BadEight : Addr
  C_BadRows : Addr
  C_BadSeven : Addr
  C_BadMap : Addr
  C_BadSigns : Addr
  C_BadNumbers : Addr
  C_BadQuestion : Addr
  C_BadHalf : Addr
  C_BadFour : Addr
  C_BadSextet : Addr
  C_BadKind : Addr
  C_NotApart : Addr
  C_BadTrio : Addr
  C_BadTwelve : Addr
  C_BadSix : Addr
  C_BadLine : Addr
  C_BadSixes : Addr
  C_BadRow : Addr
  C_BadMarking : Addr
  C_BadMarks : Addr
  C_BadStand : Addr
  C_BadLabels : Addr
  C_BadHexa : Addr
  C_BadNode : Addr
  C_BadSignRows : Addr
  C_BadPart : Addr
  C_BadRing : Addr
  C_BadPlaces : Addr
  C_BadTrust : Addr
  C_BadWords : Addr
  C_BadShape : Addr
  C_Within : Addr
  C_Without : Addr
  C_BadStep : Addr
  C_BadSteps : Addr
  C_Refused : Addr
  C_BadJournal : Addr
  C_BadNumbering : Addr
  C_BadVector : Addr
  C_NoVector : Addr
  C_TooGreat : Addr
  C_BadText : Addr
  C_NothingDone : Addr
  C_NothingUndone : Addr
  C_FiveError : Addr
/-- the kinds, in the law's order -/
def Adr.all (z : Adr) : List Addr := [z.C_BadNames, z.C_BadEights, z.C_NoName, z.C_BadLot, z.C_BadFive, z.C_BadImage, z.C_BadNumber, z.C_BadEight, z.C_BadRows, z.C_BadSeven, z.C_BadMap, z.C_BadSigns, z.C_BadNumbers, z.C_BadQuestion, z.C_BadHalf, z.C_BadFour, z.C_BadSextet, z.C_BadKind, z.C_NotApart, z.C_BadTrio, z.C_BadTwelve, z.C_BadSix, z.C_BadLine, z.C_BadSixes, z.C_BadRow, z.C_BadMarking, z.C_BadMarks, z.C_BadStand, z.C_BadLabels, z.C_BadHexa, z.C_BadNode, z.C_BadSignRows, z.C_BadPart, z.C_BadRing, z.C_BadPlaces, z.C_BadTrust, z.C_BadWords, z.C_BadShape, z.C_Within, z.C_Without, z.C_BadStep, z.C_BadSteps, z.C_Refused, z.C_BadJournal, z.C_BadNumbering, z.C_BadVector, z.C_NoVector, z.C_TooGreat, z.C_BadText, z.C_NothingDone, z.C_NothingUndone]
def Adr.flds (z : Adr) : List (Addr × Str) := [(z.C_BadNames, ("names" : Str)), (z.C_BadEights, ("eights" : Str)), (z.C_NoName, ("name" : Str)), (z.C_BadLot, ("lot" : Str)), (z.C_BadFive, ("five" : Str)), (z.C_BadImage, ("image" : Str)), (z.C_BadNumber, ("number" : Str)), (z.C_BadEight, ("eight" : Str)), (z.C_BadRows, ("rows" : Str)), (z.C_BadSeven, ("seven" : Str)), (z.C_BadMap, ("own_map" : Str)), (z.C_BadSigns, ("signs" : Str)), (z.C_BadNumbers, ("numbers" : Str)), (z.C_BadQuestion, ("question" : Str)), (z.C_BadHalf, ("half" : Str)), (z.C_BadFour, ("four" : Str)), (z.C_BadSextet, ("sextet" : Str)), (z.C_BadKind, ("kind" : Str)), (z.C_NotApart, ("name" : Str)), (z.C_BadTrio, ("trio" : Str)), (z.C_BadTwelve, ("twelve" : Str)), (z.C_BadSix, ("six" : Str)), (z.C_BadLine, ("line" : Str)), (z.C_BadSixes, ("sixes" : Str)), (z.C_BadRow, ("row" : Str)), (z.C_BadMarking, ("marking" : Str)), (z.C_BadMarks, ("marks" : Str)), (z.C_BadStand, ("stand" : Str)), (z.C_BadLabels, ("labels" : Str)), (z.C_BadHexa, ("six" : Str)), (z.C_BadNode, ("node" : Str)), (z.C_BadSignRows, ("rows" : Str)), (z.C_BadPart, ("part" : Str)), (z.C_BadRing, ("ring" : Str)), (z.C_BadPlaces, ("places" : Str)), (z.C_BadTrust, ("trust" : Str)), (z.C_BadWords, ("words" : Str)), (z.C_BadShape, ("shape" : Str)), (z.C_Within, ("name" : Str)), (z.C_Without, ("name" : Str)), (z.C_BadStep, ("step" : Str)), (z.C_BadSteps, ("steps" : Str)), (z.C_Refused, ("fault" : Str)), (z.C_BadJournal, ("journal" : Str)), (z.C_BadNumbering, ("numbering" : Str)), (z.C_BadVector, ("vector" : Str)), (z.C_NoVector, ("index" : Str)), (z.C_TooGreat, ("name" : Str)), (z.C_BadText, ("text" : Str)), (z.C_BadText, ("line" : Str))]
theorem Adr.mem_BadNames (z : Adr) : z.C_BadNames ∈ z.all := by unfold Adr.all; simp only [List.mem_cons, true_or, or_true]
theorem Adr.mem_BadEights (z : Adr) : z.C_BadEights ∈ z.all := by unfold Adr.all; simp only [List.mem_cons, true_or, or_true]
theorem Adr.mem_NoName (z : Adr) : z.C_NoName ∈ z.all := by unfold Adr.all; simp only [List.mem_cons, true_or, or_true]
theorem Adr.mem_BadLot (z : Adr) : z.C_BadLot ∈ z.all := by unfold Adr.all; simp only [List.mem_cons, true_or, or_true]
theorem Adr.mem_BadFive (z : Adr) : z.C_BadFive ∈ z.all := by unfold Adr.all; simp only [List.mem_cons, true_or, or_true]
theorem Adr.mem_BadImage (z : Adr) : z.C_BadImage ∈ z.all := by unfold Adr.all; simp only [List.mem_cons, true_or, or_true]
theorem Adr.mem_BadNumber (z : Adr) : z.C_BadNumber ∈ z.all := by unfold Adr.all; simp only [List.mem_cons, true_or, or_true]
theorem Adr.mem_BadEight (z : Adr) : z.C_BadEight ∈ z.all := by unfold Adr.all; simp only [List.mem_cons, true_or, or_true]
theorem Adr.mem_BadRows (z : Adr) : z.C_BadRows ∈ z.all := by unfold Adr.all; simp only [List.mem_cons, true_or, or_true]
theorem Adr.mem_BadSeven (z : Adr) : z.C_BadSeven ∈ z.all := by unfold Adr.all; simp only [List.mem_cons, true_or, or_true]
theorem Adr.mem_BadMap (z : Adr) : z.C_BadMap ∈ z.all := by unfold Adr.all; simp only [List.mem_cons, true_or, or_true]
theorem Adr.mem_BadSigns (z : Adr) : z.C_BadSigns ∈ z.all := by unfold Adr.all; simp only [List.mem_cons, true_or, or_true]
theorem Adr.mem_BadNumbers (z : Adr) : z.C_BadNumbers ∈ z.all := by unfold Adr.all; simp only [List.mem_cons, true_or, or_true]
theorem Adr.mem_BadQuestion (z : Adr) : z.C_BadQuestion ∈ z.all := by unfold Adr.all; simp only [List.mem_cons, true_or, or_true]
theorem Adr.mem_BadHalf (z : Adr) : z.C_BadHalf ∈ z.all := by unfold Adr.all; simp only [List.mem_cons, true_or, or_true]
theorem Adr.mem_BadFour (z : Adr) : z.C_BadFour ∈ z.all := by unfold Adr.all; simp only [List.mem_cons, true_or, or_true]
theorem Adr.mem_BadSextet (z : Adr) : z.C_BadSextet ∈ z.all := by unfold Adr.all; simp only [List.mem_cons, true_or, or_true]
theorem Adr.mem_BadKind (z : Adr) : z.C_BadKind ∈ z.all := by unfold Adr.all; simp only [List.mem_cons, true_or, or_true]
theorem Adr.mem_NotApart (z : Adr) : z.C_NotApart ∈ z.all := by unfold Adr.all; simp only [List.mem_cons, true_or, or_true]
theorem Adr.mem_BadTrio (z : Adr) : z.C_BadTrio ∈ z.all := by unfold Adr.all; simp only [List.mem_cons, true_or, or_true]
theorem Adr.mem_BadTwelve (z : Adr) : z.C_BadTwelve ∈ z.all := by unfold Adr.all; simp only [List.mem_cons, true_or, or_true]
theorem Adr.mem_BadSix (z : Adr) : z.C_BadSix ∈ z.all := by unfold Adr.all; simp only [List.mem_cons, true_or, or_true]
theorem Adr.mem_BadLine (z : Adr) : z.C_BadLine ∈ z.all := by unfold Adr.all; simp only [List.mem_cons, true_or, or_true]
theorem Adr.mem_BadSixes (z : Adr) : z.C_BadSixes ∈ z.all := by unfold Adr.all; simp only [List.mem_cons, true_or, or_true]
theorem Adr.mem_BadRow (z : Adr) : z.C_BadRow ∈ z.all := by unfold Adr.all; simp only [List.mem_cons, true_or, or_true]
theorem Adr.mem_BadMarking (z : Adr) : z.C_BadMarking ∈ z.all := by unfold Adr.all; simp only [List.mem_cons, true_or, or_true]
theorem Adr.mem_BadMarks (z : Adr) : z.C_BadMarks ∈ z.all := by unfold Adr.all; simp only [List.mem_cons, true_or, or_true]
theorem Adr.mem_BadStand (z : Adr) : z.C_BadStand ∈ z.all := by unfold Adr.all; simp only [List.mem_cons, true_or, or_true]
theorem Adr.mem_BadLabels (z : Adr) : z.C_BadLabels ∈ z.all := by unfold Adr.all; simp only [List.mem_cons, true_or, or_true]
theorem Adr.mem_BadHexa (z : Adr) : z.C_BadHexa ∈ z.all := by unfold Adr.all; simp only [List.mem_cons, true_or, or_true]
theorem Adr.mem_BadNode (z : Adr) : z.C_BadNode ∈ z.all := by unfold Adr.all; simp only [List.mem_cons, true_or, or_true]
theorem Adr.mem_BadSignRows (z : Adr) : z.C_BadSignRows ∈ z.all := by unfold Adr.all; simp only [List.mem_cons, true_or, or_true]
theorem Adr.mem_BadPart (z : Adr) : z.C_BadPart ∈ z.all := by unfold Adr.all; simp only [List.mem_cons, true_or, or_true]
theorem Adr.mem_BadRing (z : Adr) : z.C_BadRing ∈ z.all := by unfold Adr.all; simp only [List.mem_cons, true_or, or_true]
theorem Adr.mem_BadPlaces (z : Adr) : z.C_BadPlaces ∈ z.all := by unfold Adr.all; simp only [List.mem_cons, true_or, or_true]
theorem Adr.mem_BadTrust (z : Adr) : z.C_BadTrust ∈ z.all := by unfold Adr.all; simp only [List.mem_cons, true_or, or_true]
theorem Adr.mem_BadWords (z : Adr) : z.C_BadWords ∈ z.all := by unfold Adr.all; simp only [List.mem_cons, true_or, or_true]
theorem Adr.mem_BadShape (z : Adr) : z.C_BadShape ∈ z.all := by unfold Adr.all; simp only [List.mem_cons, true_or, or_true]
theorem Adr.mem_Within (z : Adr) : z.C_Within ∈ z.all := by unfold Adr.all; simp only [List.mem_cons, true_or, or_true]
theorem Adr.mem_Without (z : Adr) : z.C_Without ∈ z.all := by unfold Adr.all; simp only [List.mem_cons, true_or, or_true]
theorem Adr.mem_BadStep (z : Adr) : z.C_BadStep ∈ z.all := by unfold Adr.all; simp only [List.mem_cons, true_or, or_true]
theorem Adr.mem_BadSteps (z : Adr) : z.C_BadSteps ∈ z.all := by unfold Adr.all; simp only [List.mem_cons, true_or, or_true]
theorem Adr.mem_Refused (z : Adr) : z.C_Refused ∈ z.all := by unfold Adr.all; simp only [List.mem_cons, true_or, or_true]
theorem Adr.mem_BadJournal (z : Adr) : z.C_BadJournal ∈ z.all := by unfold Adr.all; simp only [List.mem_cons, true_or, or_true]
theorem Adr.mem_BadNumbering (z : Adr) : z.C_BadNumbering ∈ z.all := by unfold Adr.all; simp only [List.mem_cons, true_or, or_true]
theorem Adr.mem_BadVector (z : Adr) : z.C_BadVector ∈ z.all := by unfold Adr.all; simp only [List.mem_cons, true_or, or_true]
theorem Adr.mem_NoVector (z : Adr) : z.C_NoVector ∈ z.all := by unfold Adr.all; simp only [List.mem_cons, true_or, or_true]
theorem Adr.mem_TooGreat (z : Adr) : z.C_TooGreat ∈ z.all := by unfold Adr.all; simp only [List.mem_cons, true_or, or_true]
theorem Adr.mem_BadText (z : Adr) : z.C_BadText ∈ z.all := by unfold Adr.all; simp only [List.mem_cons, true_or, or_true]
theorem Adr.mem_NothingDone (z : Adr) : z.C_NothingDone ∈ z.all := by unfold Adr.all; simp only [List.mem_cons, true_or, or_true]
theorem Adr.mem_NothingUndone (z : Adr) : z.C_NothingUndone ∈ z.all := by unfold Adr.all; simp only [List.mem_cons, true_or, or_true]
variable {ZZ : Adr}
/-- isinstance of one of the kinds -/
def isK (z : Adr) (C E : Addr) : Option Bool := if C ∈ z.all then some (decide (C = E)) else none
def isF (z : Adr) (C : Addr) : Option Bool := if C ∈ z.all then some true else none
theorem isK_in {z : Adr} {C E : Addr} {b : Bool} (h : isK z C E = some b) : C ∈ z.all := by
  unfold isK at h
  split at h
  · assumption
  · cases h
theorem isK_eq {z : Adr} {C E : Addr} {b : Bool} (h : isK z C E = some b) : b = decide (C = E) := by
  unfold isK at h
  split at h
  · cases h; rfl
  · cases h
theorem isF_in {z : Adr} {C : Addr} {b : Bool} (h : isF z C = some b) : C ∈ z.all := by
  unfold isF at h
  split at h
  · assumption
  · cases h
theorem isF_true {z : Adr} {C : Addr} {b : Bool} (h : isF z C = some b) : b = true := by
  unfold isF at h
  split at h
  · cases h; rfl
  · cases h
/-- what look tells of e -/
def lookO (z : Adr) (l : Lk) (e : EV) : Option (List (Vid D)) := if l.vn = "e" then match l.flds with
  | [f] => if (e.C, f) ∈ z.flds then (e.fs.lookup f).map fun v => [v] else none
  | [f, g] => if (e.C, f) ∈ z.flds ∧ (e.C, g) ∈ z.flds then (e.fs.lookup f).bind fun v => (e.fs.lookup g).map fun w => [v, w] else none
  | _ => none
  else none
theorem evn_lookO {B : Bs} {Γ : List Sl} {C C1 : Cs} {ca : TA} {z : Adr} {i : Nat} {l : Lk} {e : EV} {r : List (Vid D)} (hi : Γ[i]? = some (some (tv l))) (ha : EvA B ca Γ C [tv e] C1) (h : lookO z l e = some r)
    (fl : ∀ p ∈ z.flds, XfC B.K p.1 ∧ PySem.W.findIn B.K (.ref p.1) p.2 = some none) : EvN B (tOrE (LamX.tLookC B.K i ca) (LamX.tLookC2 B.K i ca)) Γ C (.lst r) C1 := by
  obtain ⟨q, vn, fs⟩ := l
  unfold lookO at h
  dsimp only at h
  by_cases hv : vn = "e"
  · subst hv
    rw [if_pos rfl] at h
    match fs, hi, h with
    | [f], hi, h =>
      dsimp only at h
      by_cases hm : (e.C, f) ∈ z.flds
      · rw [if_pos hm] at h
        cases hl : e.fs.lookup f with
        | none => rw [hl] at h; cases h
        | some v =>
          rw [hl] at h
          cases h
          exact evn_altL (evn_lookC hi ha (by decide) (fun _ _ _ _ _ _ _ _ => rfl) hl (fl _ hm).1 (fl _ hm).2)
      · rw [if_neg hm] at h; cases h
    | [f, g], hi, h =>
      dsimp only at h
      by_cases hm : (e.C, f) ∈ z.flds ∧ (e.C, g) ∈ z.flds
      · rw [if_pos hm] at h
        cases hl : e.fs.lookup f with
        | none => rw [hl] at h; cases h
        | some v =>
          cases hl2 : e.fs.lookup g with
          | none => rw [hl, Option.bind_some, hl2] at h; cases h
          | some w =>
            rw [hl, Option.bind_some, hl2] at h
            cases h
            exact evn_altR (evn_lookC2 hi ha (by decide) (fun _ _ _ _ _ _ _ _ _ _ => rfl) hl hl2 (fl _ hm.1).1 (fl _ hm.1).2 (fl _ hm.2).2)
      · rw [if_neg hm] at h; cases h
    | [], hi, h => cases h
    | _ :: _ :: _ :: _, hi, h => cases h
  · rw [if_neg hv] at h; cases h
/-- the very same object -/
noncomputable def veryO (a b : Vid D) : Option Bool := open Classical in if a = b ∧ veryP a.x = true then some true else none
theorem veryO_some {a b : Vid D} {r : Bool} (h : veryO a b = some r) : r = true ∧ a = b ∧ veryP a.x = true := by
  unfold veryO at h
  split at h
  · rename_i q; cases h; exact ⟨rfl, q⟩
  · cases h
theorem veryO_true {a b : Vid D} {r : Bool} (h : veryO a b = some r) : r = true := (veryO_some h).1
theorem very_wit {a b : Vid D} {r : Bool} (h : veryO a b = some r) : S_veryP [tv a, tv b] [] (tv true) [] := by
  obtain ⟨_, e, hv⟩ := veryO_some h
  subst e
  exact ⟨_, _, a.v, a.x, rfl, rfl, dyn_vid, dyn_vid, fun K F u h => h.1, fun K F u h => h.1, hv, rfl, rfl⟩
abbrev s__law_spring : Stmt := topS 61
abbrev N__law_spring : List Str := ["script", "turn", "cell", "mix", "at", "one"]
theorem sc__law_spring : FnScope N__law_spring ["script", "turn"] (defScope s__law_spring) := ⟨rfl, rfl, rfl, by decide +kernel, rfl, by decide +kernel, by decide +kernel⟩
def m__law_spring (v_script : Sq) (v_turn : Int) : Option (List Int) :=
  (if (decide (v_turn < (v_script.l.length : Int))) = true then (L2.atI v_script.l v_turn).bind fun x1 =>
  some x1 else (mulO (7 : Int) v_turn).bind fun x3 =>
  some (x3 + (v_script.l.length : Int))).bind fun x5 =>
  (mulO (97 : Int) v_turn).bind fun x13 =>
  (some ((1009 : Int) + x13)).bind fun v15 =>
  (foldO (fun (s20 : Int) (a22 : (Int × Int)) =>
  (mulO s20 (69069 : Int)).bind fun x26 =>
  (mulO (5 : Int) a22.1).bind fun x28 =>
  (modO (((x26 + a22.2) + x28) + (1 : Int)) (2147483629 : Int)).bind fun x30 =>
  some x30) v15 (enumL 0 (cutL v_script.l none (some (63 : Int))))).bind fun (s35 : Int) =>
  (powO (10 : Int) (18 : Int)).bind fun x38 =>
  (if (decide (x38 ≤ x5)) = true then some x5 else some (0 : Int)).bind fun x40 =>
  (mulO x5 (31 : Int)).bind fun x46 =>
  (modO (s35 + x46) (2147483647 : Int)).bind fun x48 =>
  some ([x40, x48, (0 : Int)] : List Int)
def S__law_spring : SpecN := fun args C r C' => ∃ (v_script : Sq) (v_turn : Int) (res : (List Int)), args = [tv v_script, tv v_turn] ∧ C = [] ∧ m__law_spring v_script v_turn = some res ∧ r = .lst res ∧ C' = []
abbrev s__law_draw : Stmt := topS 62
abbrev N__law_draw : List Str := ["spring", "many", "digit", "mixed"]
theorem sc__law_draw : FnScope N__law_draw ["spring", "many"] (defScope s__law_draw) := ⟨rfl, rfl, rfl, by decide +kernel, rfl, by decide +kernel, by decide +kernel⟩
def m__law_draw (v_spring : (List Int)) (v_many : Int) : Option (Int × (List Int)) :=
  (L2.atI v_spring (0 : Int)).bind fun x1 =>
  if (decide ((0 : Int) < x1)) = true then
  (L2.atI v_spring (0 : Int)).bind fun x6 =>
  (modO x6 v_many).bind fun x8 =>
  (L2.atI v_spring (0 : Int)).bind fun x12 =>
  (fdivWO x12 v_many).bind fun x14 =>
  (setO v_spring (0 : Int) x14).bind fun l16 =>
  some (x8, l16)
  else
  (L2.atI v_spring (2 : Int)).bind fun x23 =>
  (setO v_spring (2 : Int) (x23 + (1 : Int))).bind fun l25 =>
  (L2.atI l25 (1 : Int)).bind fun x29 =>
  (L2.atI l25 (2 : Int)).bind fun x31 =>
  (mulO (6364137 : Int) x31).bind fun x33 =>
  (powO ((x29 + x33) + (1442695 : Int)) (3 : Int)).bind fun x35 =>
  (modO x35 (2147483647 : Int)).bind fun x37 =>
  (mulO x37 (48271 : Int)).bind fun x44 =>
  (L2.atI l25 (2 : Int)).bind fun x46 =>
  (mulO (11 : Int) x46).bind fun x48 =>
  (powO (x44 + x48) (3 : Int)).bind fun x50 =>
  (modO x50 (2147483629 : Int)).bind fun x52 =>
  (fdivWO x52 (8 : Int)).bind fun x54 =>
  (modO x54 v_many).bind fun x56 =>
  some (x56, l25)
def S__law_draw : SpecV := fun args C r C' => ∃ (p_spring : Addr) (v_spring : (List Int)) (v_many : Int) (res : Int) (w_spring : (List Int)), args = [tv (Ptr.mk p_spring), tv v_many] ∧ C = [(p_spring, .lst v_spring)] ∧ m__law_draw v_spring v_many = some (res, w_spring) ∧ r = tv res ∧ C' = [(p_spring, .lst w_spring)]
abbrev s__law_pick : Stmt := topS 63
abbrev N__law_pick : List Str := ["spring", "some"]
theorem sc__law_pick : FnScope N__law_pick ["spring", "some"] (defScope s__law_pick) := ⟨rfl, rfl, rfl, by decide +kernel, rfl, by decide +kernel, by decide +kernel⟩
def m__law_pick {α : Type} (v_spring : (List Int)) (v_some : (List α)) : Option (α × (List Int)) :=
  (m__law_draw v_spring (v_some.length : Int)).bind fun x1 =>
  (L2.atI v_some x1.1).bind fun x3 =>
  some (x3, x1.2)
def S__law_pick : SpecV := fun args C r C' => ∃ (α : Type) (_ : Rp α) (p_spring : Addr) (v_spring : (List Int)) (v_some : (List α)) (res : α) (w_spring : (List Int)), args = [tv (Ptr.mk p_spring), tv v_some] ∧ C = [(p_spring, .lst v_spring)] ∧ m__law_pick v_spring v_some = some (res, w_spring) ∧ r = tv res ∧ C' = [(p_spring, .lst w_spring)]
abbrev s__law_e_kinds : Stmt := topS 71
abbrev N__law_e_kinds : List Str := ["e"]
theorem sc__law_e_kinds : FnScope N__law_e_kinds ["e"] (defScope s__law_e_kinds) := ⟨rfl, rfl, rfl, by decide +kernel, rfl, by decide +kernel, by decide +kernel⟩
def m__law_e_kinds (v_e : EV) : Option (List Bool) :=
  (isK ZZ v_e.C ZZ.C_BadNames).bind fun b1 =>
  (isK ZZ v_e.C ZZ.C_BadEights).bind fun b3 =>
  (isK ZZ v_e.C ZZ.C_NoName).bind fun b5 =>
  (isK ZZ v_e.C ZZ.C_BadLot).bind fun b7 =>
  (isK ZZ v_e.C ZZ.C_BadFive).bind fun b9 =>
  (isK ZZ v_e.C ZZ.C_BadImage).bind fun b11 =>
  (isK ZZ v_e.C ZZ.C_BadNumber).bind fun b13 =>
  (isK ZZ v_e.C ZZ.C_BadEight).bind fun b15 =>
  (isK ZZ v_e.C ZZ.C_BadRows).bind fun b17 =>
  (isK ZZ v_e.C ZZ.C_BadSeven).bind fun b19 =>
  (isK ZZ v_e.C ZZ.C_BadMap).bind fun b21 =>
  (isK ZZ v_e.C ZZ.C_BadSigns).bind fun b23 =>
  (isK ZZ v_e.C ZZ.C_BadNumbers).bind fun b25 =>
  (isK ZZ v_e.C ZZ.C_BadQuestion).bind fun b27 =>
  (isK ZZ v_e.C ZZ.C_BadHalf).bind fun b29 =>
  (isK ZZ v_e.C ZZ.C_BadFour).bind fun b31 =>
  (isK ZZ v_e.C ZZ.C_BadSextet).bind fun b33 =>
  (isK ZZ v_e.C ZZ.C_BadKind).bind fun b35 =>
  (isK ZZ v_e.C ZZ.C_NotApart).bind fun b37 =>
  (isK ZZ v_e.C ZZ.C_BadTrio).bind fun b39 =>
  (isK ZZ v_e.C ZZ.C_BadTwelve).bind fun b41 =>
  (isK ZZ v_e.C ZZ.C_BadSix).bind fun b43 =>
  (isK ZZ v_e.C ZZ.C_BadLine).bind fun b45 =>
  (isK ZZ v_e.C ZZ.C_BadSixes).bind fun b47 =>
  (isK ZZ v_e.C ZZ.C_BadRow).bind fun b49 =>
  (isK ZZ v_e.C ZZ.C_BadMarking).bind fun b51 =>
  (isK ZZ v_e.C ZZ.C_BadMarks).bind fun b53 =>
  (isK ZZ v_e.C ZZ.C_BadStand).bind fun b55 =>
  (isK ZZ v_e.C ZZ.C_BadLabels).bind fun b57 =>
  (isK ZZ v_e.C ZZ.C_BadHexa).bind fun b59 =>
  (isK ZZ v_e.C ZZ.C_BadNode).bind fun b61 =>
  (isK ZZ v_e.C ZZ.C_BadSignRows).bind fun b63 =>
  (isK ZZ v_e.C ZZ.C_BadPart).bind fun b65 =>
  (isK ZZ v_e.C ZZ.C_BadRing).bind fun b67 =>
  (isK ZZ v_e.C ZZ.C_BadPlaces).bind fun b69 =>
  (isK ZZ v_e.C ZZ.C_BadTrust).bind fun b71 =>
  (isK ZZ v_e.C ZZ.C_BadWords).bind fun b73 =>
  (isK ZZ v_e.C ZZ.C_BadShape).bind fun b75 =>
  (isK ZZ v_e.C ZZ.C_Within).bind fun b77 =>
  (isK ZZ v_e.C ZZ.C_Without).bind fun b79 =>
  (isK ZZ v_e.C ZZ.C_BadStep).bind fun b81 =>
  (isK ZZ v_e.C ZZ.C_BadSteps).bind fun b83 =>
  (isK ZZ v_e.C ZZ.C_Refused).bind fun b85 =>
  (isK ZZ v_e.C ZZ.C_BadJournal).bind fun b87 =>
  (isK ZZ v_e.C ZZ.C_BadNumbering).bind fun b89 =>
  (isK ZZ v_e.C ZZ.C_BadVector).bind fun b91 =>
  (isK ZZ v_e.C ZZ.C_NoVector).bind fun b93 =>
  (isK ZZ v_e.C ZZ.C_TooGreat).bind fun b95 =>
  (isK ZZ v_e.C ZZ.C_BadText).bind fun b97 =>
  (isK ZZ v_e.C ZZ.C_NothingDone).bind fun b99 =>
  (isK ZZ v_e.C ZZ.C_NothingUndone).bind fun b101 =>
  some ([b1, b3, b5, b7, b9, b11, b13, b15, b17, b19, b21, b23, b25, b27, b29, b31, b33, b35, b37, b39, b41, b43, b45, b47, b49, b51, b53, b55, b57, b59, b61, b63, b65, b67, b69, b71, b73, b75, b77, b79, b81, b83, b85, b87, b89, b91, b93, b95, b97, b99, b101] : List Bool)
def S__law_e_kinds : SpecN := fun args C r C' => ∃ (v_e : EV) (res : (List Bool)), args = [tv v_e] ∧ C = [] ∧ m__law_e_kinds (ZZ := ZZ) v_e = some res ∧ r = .lst res ∧ C' = []
abbrev s__law_e_first : Stmt := topS 67
abbrev N__law_e_first : List Str := ["x", "found"]
theorem sc__law_e_first : FnScope N__law_e_first ["x"] (defScope s__law_e_first) := ⟨rfl, rfl, rfl, by decide +kernel, rfl, by decide +kernel, by decide +kernel⟩
def m__law_e_first (v_x : (Vid D)) : Option (List T.Row) :=
  (appO ([] : List T.Row) (T.Row.mk (EV.mk ZZ.C_BadNames [("names", v_x)]) (EV.mk ZZ.C_BadNames [("names", v_x)]) (Lk.mk "_law_e_first.<locals>.<lambda>" "e" ["names"]) ([v_x] : List (Vid D)))).bind fun x2 =>
  (appO x2 (T.Row.mk (EV.mk ZZ.C_BadEights [("eights", v_x)]) (EV.mk ZZ.C_BadEights [("eights", v_x)]) (Lk.mk "_law_e_first.<locals>.<lambda>" "e" ["eights"]) ([v_x] : List (Vid D)))).bind fun x5 =>
  (appO x5 (T.Row.mk (EV.mk ZZ.C_NoName [("name", v_x)]) (EV.mk ZZ.C_NoName [("name", v_x)]) (Lk.mk "_law_e_first.<locals>.<lambda>" "e" ["name"]) ([v_x] : List (Vid D)))).bind fun x8 =>
  (appO x8 (T.Row.mk (EV.mk ZZ.C_BadLot [("lot", v_x)]) (EV.mk ZZ.C_BadLot [("lot", v_x)]) (Lk.mk "_law_e_first.<locals>.<lambda>" "e" ["lot"]) ([v_x] : List (Vid D)))).bind fun x11 =>
  (appO x11 (T.Row.mk (EV.mk ZZ.C_BadFive [("five", v_x)]) (EV.mk ZZ.C_BadFive [("five", v_x)]) (Lk.mk "_law_e_first.<locals>.<lambda>" "e" ["five"]) ([v_x] : List (Vid D)))).bind fun x14 =>
  (appO x14 (T.Row.mk (EV.mk ZZ.C_BadImage [("image", v_x)]) (EV.mk ZZ.C_BadImage [("image", v_x)]) (Lk.mk "_law_e_first.<locals>.<lambda>" "e" ["image"]) ([v_x] : List (Vid D)))).bind fun x17 =>
  (appO x17 (T.Row.mk (EV.mk ZZ.C_BadNumber [("number", v_x)]) (EV.mk ZZ.C_BadNumber [("number", v_x)]) (Lk.mk "_law_e_first.<locals>.<lambda>" "e" ["number"]) ([v_x] : List (Vid D)))).bind fun x20 =>
  (appO x20 (T.Row.mk (EV.mk ZZ.C_BadEight [("eight", v_x)]) (EV.mk ZZ.C_BadEight [("eight", v_x)]) (Lk.mk "_law_e_first.<locals>.<lambda>" "e" ["eight"]) ([v_x] : List (Vid D)))).bind fun x23 =>
  (appO x23 (T.Row.mk (EV.mk ZZ.C_BadRows [("rows", v_x)]) (EV.mk ZZ.C_BadRows [("rows", v_x)]) (Lk.mk "_law_e_first.<locals>.<lambda>" "e" ["rows"]) ([v_x] : List (Vid D)))).bind fun x26 =>
  (appO x26 (T.Row.mk (EV.mk ZZ.C_BadSeven [("seven", v_x)]) (EV.mk ZZ.C_BadSeven [("seven", v_x)]) (Lk.mk "_law_e_first.<locals>.<lambda>" "e" ["seven"]) ([v_x] : List (Vid D)))).bind fun x29 =>
  (appO x29 (T.Row.mk (EV.mk ZZ.C_BadMap [("own_map", v_x)]) (EV.mk ZZ.C_BadMap [("own_map", v_x)]) (Lk.mk "_law_e_first.<locals>.<lambda>" "e" ["own_map"]) ([v_x] : List (Vid D)))).bind fun x32 =>
  (appO x32 (T.Row.mk (EV.mk ZZ.C_BadSigns [("signs", v_x)]) (EV.mk ZZ.C_BadSigns [("signs", v_x)]) (Lk.mk "_law_e_first.<locals>.<lambda>" "e" ["signs"]) ([v_x] : List (Vid D)))).bind fun x35 =>
  (appO x35 (T.Row.mk (EV.mk ZZ.C_BadNumbers [("numbers", v_x)]) (EV.mk ZZ.C_BadNumbers [("numbers", v_x)]) (Lk.mk "_law_e_first.<locals>.<lambda>" "e" ["numbers"]) ([v_x] : List (Vid D)))).bind fun x38 =>
  (appO x38 (T.Row.mk (EV.mk ZZ.C_BadQuestion [("question", v_x)]) (EV.mk ZZ.C_BadQuestion [("question", v_x)]) (Lk.mk "_law_e_first.<locals>.<lambda>" "e" ["question"]) ([v_x] : List (Vid D)))).bind fun x41 =>
  (appO x41 (T.Row.mk (EV.mk ZZ.C_BadHalf [("half", v_x)]) (EV.mk ZZ.C_BadHalf [("half", v_x)]) (Lk.mk "_law_e_first.<locals>.<lambda>" "e" ["half"]) ([v_x] : List (Vid D)))).bind fun x44 =>
  (appO x44 (T.Row.mk (EV.mk ZZ.C_BadFour [("four", v_x)]) (EV.mk ZZ.C_BadFour [("four", v_x)]) (Lk.mk "_law_e_first.<locals>.<lambda>" "e" ["four"]) ([v_x] : List (Vid D)))).bind fun x47 =>
  some x47
def S__law_e_first (P_tab : Addr) : SpecN := fun args C r C' => ∃ (v_x : (Vid D)) (res : (List T.Row)), args = [tv v_x] ∧ C = [(P_tab, .tab "_law_e_first.<locals>.<lambda>")] ∧ m__law_e_first (ZZ := ZZ) v_x = some res ∧ r = .lst res ∧ C' = [(P_tab, .tab "_law_e_first.<locals>.<lambda>")]
abbrev s__law_e_second : Stmt := topS 68
abbrev N__law_e_second : List Str := ["x", "found"]
theorem sc__law_e_second : FnScope N__law_e_second ["x"] (defScope s__law_e_second) := ⟨rfl, rfl, rfl, by decide +kernel, rfl, by decide +kernel, by decide +kernel⟩
def m__law_e_second (v_x : (Vid D)) : Option (List T.Row) :=
  (appO ([] : List T.Row) (T.Row.mk (EV.mk ZZ.C_BadSextet [("sextet", v_x)]) (EV.mk ZZ.C_BadSextet [("sextet", v_x)]) (Lk.mk "_law_e_second.<locals>.<lambda>" "e" ["sextet"]) ([v_x] : List (Vid D)))).bind fun x2 =>
  (appO x2 (T.Row.mk (EV.mk ZZ.C_BadKind [("kind", v_x)]) (EV.mk ZZ.C_BadKind [("kind", v_x)]) (Lk.mk "_law_e_second.<locals>.<lambda>" "e" ["kind"]) ([v_x] : List (Vid D)))).bind fun x5 =>
  (appO x5 (T.Row.mk (EV.mk ZZ.C_NotApart [("name", v_x)]) (EV.mk ZZ.C_NotApart [("name", v_x)]) (Lk.mk "_law_e_second.<locals>.<lambda>" "e" ["name"]) ([v_x] : List (Vid D)))).bind fun x8 =>
  (appO x8 (T.Row.mk (EV.mk ZZ.C_BadTrio [("trio", v_x)]) (EV.mk ZZ.C_BadTrio [("trio", v_x)]) (Lk.mk "_law_e_second.<locals>.<lambda>" "e" ["trio"]) ([v_x] : List (Vid D)))).bind fun x11 =>
  (appO x11 (T.Row.mk (EV.mk ZZ.C_BadTwelve [("twelve", v_x)]) (EV.mk ZZ.C_BadTwelve [("twelve", v_x)]) (Lk.mk "_law_e_second.<locals>.<lambda>" "e" ["twelve"]) ([v_x] : List (Vid D)))).bind fun x14 =>
  (appO x14 (T.Row.mk (EV.mk ZZ.C_BadSix [("six", v_x)]) (EV.mk ZZ.C_BadSix [("six", v_x)]) (Lk.mk "_law_e_second.<locals>.<lambda>" "e" ["six"]) ([v_x] : List (Vid D)))).bind fun x17 =>
  (appO x17 (T.Row.mk (EV.mk ZZ.C_BadLine [("line", v_x)]) (EV.mk ZZ.C_BadLine [("line", v_x)]) (Lk.mk "_law_e_second.<locals>.<lambda>" "e" ["line"]) ([v_x] : List (Vid D)))).bind fun x20 =>
  (appO x20 (T.Row.mk (EV.mk ZZ.C_BadSixes [("sixes", v_x)]) (EV.mk ZZ.C_BadSixes [("sixes", v_x)]) (Lk.mk "_law_e_second.<locals>.<lambda>" "e" ["sixes"]) ([v_x] : List (Vid D)))).bind fun x23 =>
  (appO x23 (T.Row.mk (EV.mk ZZ.C_BadRow [("row", v_x)]) (EV.mk ZZ.C_BadRow [("row", v_x)]) (Lk.mk "_law_e_second.<locals>.<lambda>" "e" ["row"]) ([v_x] : List (Vid D)))).bind fun x26 =>
  (appO x26 (T.Row.mk (EV.mk ZZ.C_BadMarking [("marking", v_x)]) (EV.mk ZZ.C_BadMarking [("marking", v_x)]) (Lk.mk "_law_e_second.<locals>.<lambda>" "e" ["marking"]) ([v_x] : List (Vid D)))).bind fun x29 =>
  (appO x29 (T.Row.mk (EV.mk ZZ.C_BadMarks [("marks", v_x)]) (EV.mk ZZ.C_BadMarks [("marks", v_x)]) (Lk.mk "_law_e_second.<locals>.<lambda>" "e" ["marks"]) ([v_x] : List (Vid D)))).bind fun x32 =>
  (appO x32 (T.Row.mk (EV.mk ZZ.C_BadStand [("stand", v_x)]) (EV.mk ZZ.C_BadStand [("stand", v_x)]) (Lk.mk "_law_e_second.<locals>.<lambda>" "e" ["stand"]) ([v_x] : List (Vid D)))).bind fun x35 =>
  (appO x35 (T.Row.mk (EV.mk ZZ.C_BadLabels [("labels", v_x)]) (EV.mk ZZ.C_BadLabels [("labels", v_x)]) (Lk.mk "_law_e_second.<locals>.<lambda>" "e" ["labels"]) ([v_x] : List (Vid D)))).bind fun x38 =>
  (appO x38 (T.Row.mk (EV.mk ZZ.C_BadHexa [("six", v_x)]) (EV.mk ZZ.C_BadHexa [("six", v_x)]) (Lk.mk "_law_e_second.<locals>.<lambda>" "e" ["six"]) ([v_x] : List (Vid D)))).bind fun x41 =>
  (appO x41 (T.Row.mk (EV.mk ZZ.C_BadNode [("node", v_x)]) (EV.mk ZZ.C_BadNode [("node", v_x)]) (Lk.mk "_law_e_second.<locals>.<lambda>" "e" ["node"]) ([v_x] : List (Vid D)))).bind fun x44 =>
  (appO x44 (T.Row.mk (EV.mk ZZ.C_BadSignRows [("rows", v_x)]) (EV.mk ZZ.C_BadSignRows [("rows", v_x)]) (Lk.mk "_law_e_second.<locals>.<lambda>" "e" ["rows"]) ([v_x] : List (Vid D)))).bind fun x47 =>
  some x47
def S__law_e_second (P_tab : Addr) : SpecN := fun args C r C' => ∃ (v_x : (Vid D)) (res : (List T.Row)), args = [tv v_x] ∧ C = [(P_tab, .tab "_law_e_second.<locals>.<lambda>")] ∧ m__law_e_second (ZZ := ZZ) v_x = some res ∧ r = .lst res ∧ C' = [(P_tab, .tab "_law_e_second.<locals>.<lambda>")]
abbrev s__law_e_third : Stmt := topS 69
abbrev N__law_e_third : List Str := ["x", "found"]
theorem sc__law_e_third : FnScope N__law_e_third ["x"] (defScope s__law_e_third) := ⟨rfl, rfl, rfl, by decide +kernel, rfl, by decide +kernel, by decide +kernel⟩
def m__law_e_third (v_x : (Vid D)) : Option (List T.Row) :=
  (appO ([] : List T.Row) (T.Row.mk (EV.mk ZZ.C_BadPart [("part", v_x)]) (EV.mk ZZ.C_BadPart [("part", v_x)]) (Lk.mk "_law_e_third.<locals>.<lambda>" "e" ["part"]) ([v_x] : List (Vid D)))).bind fun x2 =>
  (appO x2 (T.Row.mk (EV.mk ZZ.C_BadRing [("ring", v_x)]) (EV.mk ZZ.C_BadRing [("ring", v_x)]) (Lk.mk "_law_e_third.<locals>.<lambda>" "e" ["ring"]) ([v_x] : List (Vid D)))).bind fun x5 =>
  (appO x5 (T.Row.mk (EV.mk ZZ.C_BadPlaces [("places", v_x)]) (EV.mk ZZ.C_BadPlaces [("places", v_x)]) (Lk.mk "_law_e_third.<locals>.<lambda>" "e" ["places"]) ([v_x] : List (Vid D)))).bind fun x8 =>
  (appO x8 (T.Row.mk (EV.mk ZZ.C_BadTrust [("trust", v_x)]) (EV.mk ZZ.C_BadTrust [("trust", v_x)]) (Lk.mk "_law_e_third.<locals>.<lambda>" "e" ["trust"]) ([v_x] : List (Vid D)))).bind fun x11 =>
  (appO x11 (T.Row.mk (EV.mk ZZ.C_BadWords [("words", v_x)]) (EV.mk ZZ.C_BadWords [("words", v_x)]) (Lk.mk "_law_e_third.<locals>.<lambda>" "e" ["words"]) ([v_x] : List (Vid D)))).bind fun x14 =>
  (appO x14 (T.Row.mk (EV.mk ZZ.C_BadShape [("shape", v_x)]) (EV.mk ZZ.C_BadShape [("shape", v_x)]) (Lk.mk "_law_e_third.<locals>.<lambda>" "e" ["shape"]) ([v_x] : List (Vid D)))).bind fun x17 =>
  (appO x17 (T.Row.mk (EV.mk ZZ.C_Within [("name", v_x)]) (EV.mk ZZ.C_Within [("name", v_x)]) (Lk.mk "_law_e_third.<locals>.<lambda>" "e" ["name"]) ([v_x] : List (Vid D)))).bind fun x20 =>
  (appO x20 (T.Row.mk (EV.mk ZZ.C_Without [("name", v_x)]) (EV.mk ZZ.C_Without [("name", v_x)]) (Lk.mk "_law_e_third.<locals>.<lambda>" "e" ["name"]) ([v_x] : List (Vid D)))).bind fun x23 =>
  (appO x23 (T.Row.mk (EV.mk ZZ.C_BadStep [("step", v_x)]) (EV.mk ZZ.C_BadStep [("step", v_x)]) (Lk.mk "_law_e_third.<locals>.<lambda>" "e" ["step"]) ([v_x] : List (Vid D)))).bind fun x26 =>
  (appO x26 (T.Row.mk (EV.mk ZZ.C_BadSteps [("steps", v_x)]) (EV.mk ZZ.C_BadSteps [("steps", v_x)]) (Lk.mk "_law_e_third.<locals>.<lambda>" "e" ["steps"]) ([v_x] : List (Vid D)))).bind fun x29 =>
  (appO x29 (T.Row.mk (EV.mk ZZ.C_Refused [("fault", v_x)]) (EV.mk ZZ.C_Refused [("fault", v_x)]) (Lk.mk "_law_e_third.<locals>.<lambda>" "e" ["fault"]) ([v_x] : List (Vid D)))).bind fun x32 =>
  (appO x32 (T.Row.mk (EV.mk ZZ.C_BadJournal [("journal", v_x)]) (EV.mk ZZ.C_BadJournal [("journal", v_x)]) (Lk.mk "_law_e_third.<locals>.<lambda>" "e" ["journal"]) ([v_x] : List (Vid D)))).bind fun x35 =>
  (appO x35 (T.Row.mk (EV.mk ZZ.C_BadNumbering [("numbering", v_x)]) (EV.mk ZZ.C_BadNumbering [("numbering", v_x)]) (Lk.mk "_law_e_third.<locals>.<lambda>" "e" ["numbering"]) ([v_x] : List (Vid D)))).bind fun x38 =>
  (appO x38 (T.Row.mk (EV.mk ZZ.C_BadVector [("vector", v_x)]) (EV.mk ZZ.C_BadVector [("vector", v_x)]) (Lk.mk "_law_e_third.<locals>.<lambda>" "e" ["vector"]) ([v_x] : List (Vid D)))).bind fun x41 =>
  (appO x41 (T.Row.mk (EV.mk ZZ.C_NoVector [("index", v_x)]) (EV.mk ZZ.C_NoVector [("index", v_x)]) (Lk.mk "_law_e_third.<locals>.<lambda>" "e" ["index"]) ([v_x] : List (Vid D)))).bind fun x44 =>
  (appO x44 (T.Row.mk (EV.mk ZZ.C_TooGreat [("name", v_x)]) (EV.mk ZZ.C_TooGreat [("name", v_x)]) (Lk.mk "_law_e_third.<locals>.<lambda>" "e" ["name"]) ([v_x] : List (Vid D)))).bind fun x47 =>
  some x47
def S__law_e_third (P_tab : Addr) : SpecN := fun args C r C' => ∃ (v_x : (Vid D)) (res : (List T.Row)), args = [tv v_x] ∧ C = [(P_tab, .tab "_law_e_third.<locals>.<lambda>")] ∧ m__law_e_third (ZZ := ZZ) v_x = some res ∧ r = .lst res ∧ C' = [(P_tab, .tab "_law_e_third.<locals>.<lambda>")]
abbrev s__law_e_fourth : Stmt := topS 70
abbrev N__law_e_fourth : List Str := ["x", "y", "found"]
theorem sc__law_e_fourth : FnScope N__law_e_fourth ["x", "y"] (defScope s__law_e_fourth) := ⟨rfl, rfl, rfl, by decide +kernel, rfl, by decide +kernel, by decide +kernel⟩
def m__law_e_fourth (v_x : (Vid D)) (v_y : (Vid D)) : Option (List T.Row) :=
  (appO ([] : List T.Row) (T.Row.mk (EV.mk ZZ.C_BadText [("line", v_y), ("text", v_x)]) (EV.mk ZZ.C_BadText [("line", v_y), ("text", v_x)]) (Lk.mk "_law_e_fourth.<locals>.<lambda>" "e" ["text", "line"]) ([v_x, v_y] : List (Vid D)))).bind fun x2 =>
  some x2
def S__law_e_fourth (P_tab : Addr) : SpecN := fun args C r C' => ∃ (v_x : (Vid D)) (v_y : (Vid D)) (res : (List T.Row)), args = [tv v_x, tv v_y] ∧ C = [(P_tab, .tab "_law_e_fourth.<locals>.<lambda>")] ∧ m__law_e_fourth (ZZ := ZZ) v_x v_y = some res ∧ r = .lst res ∧ C' = [(P_tab, .tab "_law_e_fourth.<locals>.<lambda>")]
abbrev s__law_e_drawn : Stmt := topS 72
abbrev N__law_e_drawn : List Str := ["spring", "way", "k"]
theorem sc__law_e_drawn : FnScope N__law_e_drawn ["spring"] (defScope s__law_e_drawn) := ⟨rfl, rfl, rfl, by decide +kernel, rfl, by decide +kernel, by decide +kernel⟩
def m__law_e_drawn (v_spring : (List Int)) : Option (D × (List Int)) :=
  (m__law_draw v_spring (9 : Int)).bind fun x1 =>
  (some x1.1).bind fun way3 =>
  if (decide (way3 = (0 : Int))) = true then
  (powO (10 : Int) (30 : Int)).bind fun x9 =>
  (m__law_draw x1.2 x9).bind fun x11 =>
  (powO (10 : Int) (29 : Int)).bind fun x13 =>
  some ((AsD.toD ((x11.1 - x13) : Int)), x11.2)
  else
  if (decide (way3 = (1 : Int))) = true then
  (m__law_pick x1.2 ([(Str.ofString ""), (Str.ofString "a"), (Str.ofString "late"), (Str.ofString "two words"), (Str.ofString "x9")] : List Str)).bind fun x22 =>
  some ((AsD.toD (x22.1 : Str)), x22.2)
  else
  if (decide (way3 = (2 : Int))) = true then
  (m__law_pick x1.2 ([(AsD.toD (() : Unit)), (AsD.toD (true : Bool)), (AsD.toD (false : Bool)), (AsD.toD ((0 : Int) : Int)), (AsD.toD ((1 : Int) : Int))] : List D)).bind fun x29 =>
  some (x29.1, x29.2)
  else
  if (decide (way3 ∈ ([(3 : Int), (4 : Int)] : List Int))) = true then
  (m__law_draw x1.2 (4 : Int)).bind fun x36 =>
  (rngO 0 x36.1).bind fun r38 =>
  (lcSL (fun (s41 : (List Int)) (a40 : Int) => (m__law_draw s41 (9 : Int)).bind fun x44 =>
  some (x44.1, x44.2)) x36.2 r38).bind fun l46 =>
  some ((AsD.toD (l46.1 : (List Int))), l46.2)
  else
  if (decide (way3 = (5 : Int))) = true then
  (m__law_draw x1.2 (4 : Int)).bind fun x60 =>
  (rngO 0 x60.1).bind fun r62 =>
  (lcSL (fun (s65 : (List Int)) (a64 : Int) => (m__law_draw s65 (9 : Int)).bind fun x68 =>
  some (x68.1, x68.2)) x60.2 r62).bind fun l70 =>
  some ((AsD.toD ((Tp.mk l70.1) : (Tp Int))), l70.2)
  else
  (m__law_draw x1.2 (4 : Int)).bind fun x82 =>
  (rngO 0 x82.1).bind fun r84 =>
  (lcSL (fun (s87 : (List Int)) (a86 : Int) => (m__law_draw s87 (9 : Int)).bind fun x90 =>
  some ((x90.1, (Str.ofString "v")), x90.2)) x82.2 r84).bind fun l92 =>
  some ((D.dct ((dOf l92.1).map fun p => ((.inl p.1 : Key), AsD.toD p.2))), l92.2)
def S__law_e_drawn : SpecV := fun args C r C' => ∃ (p_spring : Addr) (v_spring : (List Int)) (res : D) (w_spring : (List Int)), args = [tv (Ptr.mk p_spring)] ∧ C = [(p_spring, .lst v_spring)] ∧ m__law_e_drawn v_spring = some (res, w_spring) ∧ r = tv res ∧ C' = [(p_spring, .lst w_spring)]
abbrev s__law_e_right : Stmt := topS 73
abbrev N__law_e_right : List Str := ["row", "at", "placed", "named", "look", "due", "e", "kept", "k", "is_one", "one", "other"]
theorem sc__law_e_right : FnScope N__law_e_right ["row", "at"] (defScope s__law_e_right) := ⟨rfl, rfl, rfl, by decide +kernel, rfl, by decide +kernel, by decide +kernel⟩
noncomputable def m__law_e_right (v_row : T.Row) (v_at : Int) : Option Bool :=
  (foldO (fun (s1 : Unit) (a3 : EV) =>
  (isF ZZ a3.C).bind fun b7 =>
  (orO (!b7) ((isF ZZ a3.C).bind fun b9 =>
  some (!b9))).bind fun b11 =>
  (chk (!b11)).bind fun u17 =>
  (m__law_e_kinds (ZZ := ZZ) a3).bind fun x20 =>
  (lcL (fun (a22 : (Int × Bool)) => some a22.2) (fun (a22 : (Int × Bool)) => some a22.1) (enumL 0 x20)).bind fun l30 =>
  (chk (!(!decide (l30 = ([v_at] : List Int))))).bind fun u34 =>
  (lookO ZZ v_row.l a3).bind fun x37 =>
  (orO (!decide ((x37.length : Int) = (v_row.due.length : Int))) ((lcL (fun (_ : ((Vid D) × (Vid D))) => some true) (fun (a40 : ((Vid D) × (Vid D))) => (veryO a40.1 a40.2).bind fun b42 =>
  some b42) (x37.zip v_row.due)).bind fun l50 =>
  some (!(l50.all id)))).bind fun b53 =>
  (chk (!b53)).bind fun u58 =>
  some ()) () ([v_row.a, v_row.b] : List EV)).bind fun (s61 : Unit) =>
  some true
def S__law_e_right : SpecV := fun args C r C' => ∃ (v_row : T.Row) (v_at : Int) (res : Bool), args = [tv v_row, tv v_at] ∧ C = [] ∧ m__law_e_right (ZZ := ZZ) v_row v_at = some res ∧ r = tv res ∧ C' = []
abbrev s_law : Stmt := topS 74
abbrev N_law : List Str := ["script", "turn", "spring", "x", "y", "found", "at", "row", "other", "many", "k", "is_one"]
theorem sc_law : FnScope N_law ["script"] (defScope s_law) := ⟨rfl, rfl, rfl, by decide +kernel, rfl, by decide +kernel, by decide +kernel⟩
noncomputable def m_law (v_script : Sq) : Option Bool :=
  (rngO 0 (3 : Int)).bind fun r1 =>
  (foldO (fun (s4 : Unit) (a6 : Int) =>
  (m__law_spring v_script a6).bind fun x10 =>
  (m__law_e_drawn x10).bind fun x14 =>
  (m__law_e_drawn x14.2).bind fun x16 =>
  chkV fun (vd20 : V) =>
  chkV fun (vd22 : V) =>
  (m__law_e_first (ZZ := ZZ) (Vid.mk vd20 x14.1)).bind fun x24 =>
  (m__law_e_second (ZZ := ZZ) (Vid.mk vd20 x14.1)).bind fun x26 =>
  (catO x24 x26).bind fun x28 =>
  (m__law_e_third (ZZ := ZZ) (Vid.mk vd20 x14.1)).bind fun x30 =>
  (catO x28 x30).bind fun x32 =>
  (m__law_e_fourth (ZZ := ZZ) (Vid.mk vd20 x14.1) (Vid.mk vd22 x16.1)).bind fun x34 =>
  (catO x32 x34).bind fun x36 =>
  (foldO (fun (s45 : Unit) (a47 : (Int × T.Row)) =>
  (m__law_e_right (ZZ := ZZ) a47.2 a47.1).bind fun x51 =>
  (chk (!(!x51))).bind fun u54 =>
  some ()) () (enumL 0 x36)).bind fun (s57 : Unit) =>
  (m__law_e_first (ZZ := ZZ) (Vid.mk vd22 x16.1)).bind fun x60 =>
  (m__law_e_second (ZZ := ZZ) (Vid.mk vd22 x16.1)).bind fun x62 =>
  (catO x60 x62).bind fun x64 =>
  (m__law_e_third (ZZ := ZZ) (Vid.mk vd22 x16.1)).bind fun x66 =>
  (catO x64 x66).bind fun x68 =>
  (m__law_e_fourth (ZZ := ZZ) (Vid.mk vd22 x16.1) (Vid.mk vd20 x14.1)).bind fun x70 =>
  (catO x68 x70).bind fun x72 =>
  (foldO (fun (s81 : Unit) (a83 : (Int × T.Row)) =>
  (m__law_e_right (ZZ := ZZ) a83.2 a83.1).bind fun x87 =>
  (orO (!x87) ((L2.atI x36 a83.1).bind fun x89 =>
  (m__law_e_right (ZZ := ZZ) x89 a83.1).bind fun x91 =>
  some (!x91))).bind fun b93 =>
  (chk (!b93)).bind fun u100 =>
  some ()) () (enumL 0 x72)).bind fun (s103 : Unit) =>
  some ()) () r1).bind fun (s108 : Unit) =>
  (some (49 : Int)).bind fun many111 =>
  (m__law_e_kinds (ZZ := ZZ) (EV.mk ZZ.C_NothingDone [])).bind fun x114 =>
  (lcL (fun (a116 : (Int × Bool)) => some a116.2) (fun (a116 : (Int × Bool)) => some a116.1) (enumL 0 x114)).bind fun l124 =>
  (chk (!(!decide (l124 = ([many111] : List Int))))).bind fun u128 =>
  (m__law_e_kinds (ZZ := ZZ) (EV.mk ZZ.C_NothingUndone [])).bind fun x131 =>
  (lcL (fun (a133 : (Int × Bool)) => some a133.2) (fun (a133 : (Int × Bool)) => some a133.1) (enumL 0 x131)).bind fun l141 =>
  (chk (!(!decide (l141 = ([(many111 + (1 : Int))] : List Int))))).bind fun u145 =>
  (isF ZZ (EV.mk ZZ.C_NothingDone []).C).bind fun b148 =>
  (andO b148 ((isF ZZ (EV.mk ZZ.C_NothingUndone []).C).bind fun b150 =>
  some b150)).bind fun b152 =>
  some b152
def S_law (P__law_e_first : Addr) (P__law_e_second : Addr) (P__law_e_third : Addr) (P__law_e_fourth : Addr) : SpecV := fun args C r C' => ∃ (v_script : Sq) (res : Bool), args = [tv v_script] ∧ C = [(P__law_e_first, .tab "_law_e_first.<locals>.<lambda>"), (P__law_e_second, .tab "_law_e_second.<locals>.<lambda>"), (P__law_e_third, .tab "_law_e_third.<locals>.<lambda>"), (P__law_e_fourth, .tab "_law_e_fourth.<locals>.<lambda>")] ∧ m_law (ZZ := ZZ) v_script = some res ∧ r = tv res ∧ C' = [(P__law_e_first, .tab "_law_e_first.<locals>.<lambda>"), (P__law_e_second, .tab "_law_e_second.<locals>.<lambda>"), (P__law_e_third, .tab "_law_e_third.<locals>.<lambda>"), (P__law_e_fourth, .tab "_law_e_fourth.<locals>.<lambda>")]
structure Facts (P : Program) (K : Frag) (mg : Str → Option Value) (base : Heap) where
  ZZ : Adr
  n_ValueError : mg "ValueError" = none
  n_all : mg "all" = none
  n_dict : mg "dict" = none
  n_enumerate : mg "enumerate" = none
  n_int : mg "int" = none
  n_isinstance : mg "isinstance" = none
  n_len : mg "len" = none
  n_range : mg "range" = none
  n_tuple : mg "tuple" = none
  n_zip : mg "zip" = none
  E_BadNames : FX.Txt P K mg ZZ.C_BadNames "BadNames" "names" "no names"
  E_BadEights : FX.Txt P K mg ZZ.C_BadEights "BadEights" "eights" "no eights"
  E_NoName : FX.Txt P K mg ZZ.C_NoName "NoName" "name" "no name of the system"
  E_BadLot : FX.Txt P K mg ZZ.C_BadLot "BadLot" "lot" "no lot"
  E_BadFive : FX.Txt P K mg ZZ.C_BadFive "BadFive" "five" "no five unlike names of the system"
  E_BadImage : FX.Txt P K mg ZZ.C_BadImage "BadImage" "image" "no image"
  E_BadNumber : FX.Txt P K mg ZZ.C_BadNumber "BadNumber" "number" "no number"
  E_BadEight : FX.Txt P K mg ZZ.C_BadEight "BadEight" "eight" "no eight of the system"
  E_BadRows : FX.Txt P K mg ZZ.C_BadRows "BadRows" "rows" "no rows of the system"
  E_BadSeven : FX.Txt P K mg ZZ.C_BadSeven "BadSeven" "seven" "no proper seven"
  E_BadMap : FX.Txt P K mg ZZ.C_BadMap "BadMap" "own_map" "no map"
  E_BadSigns : FX.Txt P K mg ZZ.C_BadSigns "BadSigns" "signs" "no signs"
  E_BadNumbers : FX.Txt P K mg ZZ.C_BadNumbers "BadNumbers" "numbers" "no list of such numbers"
  E_BadQuestion : FX.Txt P K mg ZZ.C_BadQuestion "BadQuestion" "question" "no question"
  E_BadHalf : FX.Txt P K mg ZZ.C_BadHalf "BadHalf" "half" "no half"
  E_BadFour : FX.Txt P K mg ZZ.C_BadFour "BadFour" "four" "no lot of four names"
  E_BadSextet : FX.Txt P K mg ZZ.C_BadSextet "BadSextet" "sextet" "no sextet"
  E_BadKind : FX.Txt P K mg ZZ.C_BadKind "BadKind" "kind" "no kind of two sextets"
  E_NotApart : FX.Txt P K mg ZZ.C_NotApart "NotApart" "name" "a name is in both eights"
  E_BadTrio : FX.Txt P K mg ZZ.C_BadTrio "BadTrio" "trio" "no trio"
  E_BadTwelve : FX.Txt P K mg ZZ.C_BadTwelve "BadTwelve" "twelve" "no twelve"
  E_BadSix : FX.Txt P K mg ZZ.C_BadSix "BadSix" "six" "no such six"
  E_BadLine : FX.Txt P K mg ZZ.C_BadLine "BadLine" "line" "no other line of the plane"
  E_BadSixes : FX.Txt P K mg ZZ.C_BadSixes "BadSixes" "sixes" "no sixes"
  E_BadRow : FX.Txt P K mg ZZ.C_BadRow "BadRow" "row" "no row of five unlike names"
  E_BadMarking : FX.Txt P K mg ZZ.C_BadMarking "BadMarking" "marking" "no marking"
  E_BadMarks : FX.Txt P K mg ZZ.C_BadMarks "BadMarks" "marks" "no marks"
  E_BadStand : FX.Txt P K mg ZZ.C_BadStand "BadStand" "stand" "no stand of the game"
  E_BadLabels : FX.Txt P K mg ZZ.C_BadLabels "BadLabels" "labels" "no labelling"
  E_BadHexa : FX.Txt P K mg ZZ.C_BadHexa "BadHexa" "six" "no hexaword"
  E_BadNode : FX.Txt P K mg ZZ.C_BadNode "BadNode" "node" "no other node"
  E_BadSignRows : FX.Txt P K mg ZZ.C_BadSignRows "BadSignRows" "rows" "no sign rows"
  E_BadPart : FX.Txt P K mg ZZ.C_BadPart "BadPart" "part" "no part of the lot"
  E_BadRing : FX.Txt P K mg ZZ.C_BadRing "BadRing" "ring" "no ring"
  E_BadPlaces : FX.Txt P K mg ZZ.C_BadPlaces "BadPlaces" "places" "no places"
  E_BadTrust : FX.Txt P K mg ZZ.C_BadTrust "BadTrust" "trust" "no trust"
  E_BadWords : FX.Txt P K mg ZZ.C_BadWords "BadWords" "words" "no list of words"
  E_BadShape : FX.Txt P K mg ZZ.C_BadShape "BadShape" "shape" "no shape"
  E_Within : FX.Txt P K mg ZZ.C_Within "Within" "name" "in the lot"
  E_Without : FX.Txt P K mg ZZ.C_Without "Without" "name" "not in the lot"
  E_BadStep : FX.Txt P K mg ZZ.C_BadStep "BadStep" "step" "no step"
  E_BadSteps : FX.Txt P K mg ZZ.C_BadSteps "BadSteps" "steps" "no steps"
  E_Refused : FX.Txt P K mg ZZ.C_Refused "Refused" "fault" "refused"
  E_BadJournal : FX.Txt P K mg ZZ.C_BadJournal "BadJournal" "journal" "no right journal"
  E_BadNumbering : FX.Txt P K mg ZZ.C_BadNumbering "BadNumbering" "numbering" "no numbering"
  E_BadVector : FX.Txt P K mg ZZ.C_BadVector "BadVector" "vector" "no vector"
  E_NoVector : FX.Txt P K mg ZZ.C_NoVector "NoVector" "index" "no vector of this index"
  E_TooGreat : FX.Txt P K mg ZZ.C_TooGreat "TooGreat" "name" "too great a number"
  E_BadText : FX.Txt2 P K mg ZZ.C_BadText "BadText" "no such text"
  E_NothingDone : FX.Txt0 P K mg ZZ.C_NothingDone "NothingDone" "nothing done"
  E_NothingUndone : FX.Txt0 P K mg ZZ.C_NothingUndone "NothingUndone" "nothing undone"
  g_FiveError : mg "FiveError" = some (.ref ZZ.C_FiveError)
  kit : ∀ C ∈ ZZ.all, ExcC K C ∧ ∀ E ∈ ZZ.all, PySem.W.kitOne K (.ref C) (.ref E) = some (decide (C = E))
  kitF : ∀ C ∈ ZZ.all, PySem.W.kitOne K (.ref C) (.ref ZZ.C_FiveError) = some true
  kitV : ∀ C ∈ ZZ.all, PySem.W.kitOne K (.ref C) (.type "ValueError") = some true
  flds : ∀ p ∈ ZZ.flds, XfC K p.1 ∧ PySem.W.findIn K (.ref p.1) p.2 = some none
  c__law_e_first : Addr
  P__law_e_first : Addr
  TB__law_e_first : LamX.TabB base mg c__law_e_first P__law_e_first
  c__law_e_second : Addr
  P__law_e_second : Addr
  TB__law_e_second : LamX.TabB base mg c__law_e_second P__law_e_second
  c__law_e_third : Addr
  P__law_e_third : Addr
  TB__law_e_third : LamX.TabB base mg c__law_e_third P__law_e_third
  c__law_e_fourth : Addr
  P__law_e_fourth : Addr
  TB__law_e_fourth : LamX.TabB base mg c__law_e_fourth P__law_e_fourth
  f__law_spring : Addr
  fd__law_spring : FuncData
  F__law_spring : Fun K "_law_spring" "_law_spring" s__law_spring f__law_spring fd__law_spring
  b__law_spring : Binds K fd__law_spring ["script", "turn"] []
  g__law_spring : mg "_law_spring" = some (.ref f__law_spring)
  f__law_draw : Addr
  fd__law_draw : FuncData
  F__law_draw : Fun K "_law_draw" "_law_draw" s__law_draw f__law_draw fd__law_draw
  b__law_draw : Binds K fd__law_draw ["spring", "many"] []
  g__law_draw : mg "_law_draw" = some (.ref f__law_draw)
  f__law_pick : Addr
  fd__law_pick : FuncData
  F__law_pick : Fun K "_law_pick" "_law_pick" s__law_pick f__law_pick fd__law_pick
  b__law_pick : Binds K fd__law_pick ["spring", "some"] []
  g__law_pick : mg "_law_pick" = some (.ref f__law_pick)
  f__law_e_first : Addr
  fd__law_e_first : FuncData
  F__law_e_first : Fun K "_law_e_first" "_law_e_first" s__law_e_first f__law_e_first fd__law_e_first
  b__law_e_first : Binds K fd__law_e_first ["x"] []
  g__law_e_first : mg "_law_e_first" = some (.ref f__law_e_first)
  cd__law_e_first : codeAt K f__law_e_first = some (.ref c__law_e_first)
  f__law_e_second : Addr
  fd__law_e_second : FuncData
  F__law_e_second : Fun K "_law_e_second" "_law_e_second" s__law_e_second f__law_e_second fd__law_e_second
  b__law_e_second : Binds K fd__law_e_second ["x"] []
  g__law_e_second : mg "_law_e_second" = some (.ref f__law_e_second)
  cd__law_e_second : codeAt K f__law_e_second = some (.ref c__law_e_second)
  f__law_e_third : Addr
  fd__law_e_third : FuncData
  F__law_e_third : Fun K "_law_e_third" "_law_e_third" s__law_e_third f__law_e_third fd__law_e_third
  b__law_e_third : Binds K fd__law_e_third ["x"] []
  g__law_e_third : mg "_law_e_third" = some (.ref f__law_e_third)
  cd__law_e_third : codeAt K f__law_e_third = some (.ref c__law_e_third)
  f__law_e_fourth : Addr
  fd__law_e_fourth : FuncData
  F__law_e_fourth : Fun K "_law_e_fourth" "_law_e_fourth" s__law_e_fourth f__law_e_fourth fd__law_e_fourth
  b__law_e_fourth : Binds K fd__law_e_fourth ["x", "y"] []
  g__law_e_fourth : mg "_law_e_fourth" = some (.ref f__law_e_fourth)
  cd__law_e_fourth : codeAt K f__law_e_fourth = some (.ref c__law_e_fourth)
  f__law_e_kinds : Addr
  fd__law_e_kinds : FuncData
  F__law_e_kinds : Fun K "_law_e_kinds" "_law_e_kinds" s__law_e_kinds f__law_e_kinds fd__law_e_kinds
  b__law_e_kinds : Binds K fd__law_e_kinds ["e"] []
  g__law_e_kinds : mg "_law_e_kinds" = some (.ref f__law_e_kinds)
  f__law_e_drawn : Addr
  fd__law_e_drawn : FuncData
  F__law_e_drawn : Fun K "_law_e_drawn" "_law_e_drawn" s__law_e_drawn f__law_e_drawn fd__law_e_drawn
  b__law_e_drawn : Binds K fd__law_e_drawn ["spring"] []
  g__law_e_drawn : mg "_law_e_drawn" = some (.ref f__law_e_drawn)
  f__law_e_right : Addr
  fd__law_e_right : FuncData
  F__law_e_right : Fun K "_law_e_right" "_law_e_right" s__law_e_right f__law_e_right fd__law_e_right
  b__law_e_right : Binds K fd__law_e_right ["row", "at"] []
  g__law_e_right : mg "_law_e_right" = some (.ref f__law_e_right)
  f_law : Addr
  fd_law : FuncData
  F_law : Fun K "law" "law" s_law f_law fd_law
  b_law : Binds K fd_law ["script"] []
  g_law : mg "law" = some (.ref f_law)
  f__law_same : Addr
  fd__law_same : FuncData
  F__law_same : Fun K "_law_same" "_law_same" s__law_same f__law_same fd__law_same
  b__law_same : Binds K fd__law_same ["found", "due"] []
  g__law_same : mg "_law_same" = some (.ref f__law_same)
  f__law_very : Addr
  fd__law_very : FuncData
  F__law_very : Fun K "_law_very" "_law_very" s__law_very f__law_very fd__law_very
  b__law_very : Binds K fd__law_very ["kept", "thing"] []
  g__law_very : mg "_law_very" = some (.ref f__law_very)
  zsame : Z__law_same K mg
end K00
set_option Elab.async false
set_option linter.all false
set_option maxRecDepth 100000
set_option maxHeartbeats 4000000
set_option autoImplicit false
namespace K00
open PySem PySem.Spec PyProof.Rows L2 T
open PySem.W (Frag)
variable {P : Program} {w : World} {K : PySem.W.Frag} {mg : Str → Option Value} {base : Heap}
theorem w__law_spring (A : Facts P K mg base) : FnOk P w K mg base CX0 (0 + 1) A.f__law_spring A.fd__law_spring ["script", "turn"] (SpN (S__law_spring) K) := by
  refine A.F__law_spring.ok sc__law_spring (len_n (fun args C r C' h => by obtain ⟨_, _, _, rfl, _⟩ := h; rfl)) (fun cdv AA outer s H vs Q E hr h => ?_)
  have nd := sc__law_spring.nd
  refine ⟨_, (pss_cons (ps_par (i := 2) (j := 3) rfl nd rfl rfl (by decide) rfl rfl (pa_cons (pe_ifExp (pt_cmpR op_lt (pv 1) (pe_callB (r := T.rLen K) call_len_seq (by rfl) A.n_len (by decide +kernel) (pa_cons (pv 0) pa_nil)) (nomark _)) (pe_ix (r := rIxL K) ix_list (pv 0) (pv 1) (fun _ _ => rfl)) (pe_op op_add (pe_op op_mul pe_int (pv 1)) (pe_callB (r := T.rLen K) call_len_seq (by rfl) A.n_len (by decide +kernel) (pa_cons (pv 0) pa_nil)))) (pa_cons (pe_op op_add pe_int (pe_op op_mul pe_int (pv 1))) pa_nil)) rfl)
      (pss_cons (ps_for PassesOwn.never rfl (pi_enum (by rfl) A.n_enumerate (pa_cons (pe_slice (r := rSlL K) sl_list (pv 0) po_none (po_some pe_int)) pa_nil)) (pg_tup rfl (pgs_cons (pg_name (i := 4) nd rfl (by first | exact .inl rfl | exact .inr rfl)) (pgs_cons (pg_name (i := 5) nd rfl (by first | exact .inl rfl | exact .inr rfl)) pgs_nil))) (pss_one (ps_set (i := 3) nd rfl (by first | exact .inl rfl | exact .inr rfl) (pe_op op_mod (pe_callTy call_int1 (by rfl) A.n_int (by decide +kernel) (pa_cons (pe_op op_add (pe_op op_add (pe_op op_add (pe_op op_mul (pv 3) pe_int) (pv 5)) (pe_op op_mul pe_int (pv 4))) pe_int) pa_nil)) pe_int))))
      (pss_one (ps_ret (pe_lst (pa_cons (pe_ifExp (pt_cmpR op_ge (pv 2) (pe_op op_pow pe_int pe_int) (nomark _)) (pv 2) pe_int) (pa_cons (pe_op op_mod (pe_callTy call_int1 (by rfl) A.n_int (by decide +kernel) (pa_cons (pe_op op_add (pv 3) (pe_op op_mul (pv 2) pe_int)) pa_nil)) pe_int) (pa_cons pe_int pa_nil)))))))), ?_⟩
  refine body_n h fun B args C r C' hK hP hS => ?_
  obtain ⟨v_script, v_turn, res, rfl, rfl, g0, rfl, rfl⟩ := hS
  subst hK
  obtain ⟨x5, h6, g17⟩ := bind_some g0
  obtain ⟨x13, h14, g18⟩ := bind_some g17
  obtain ⟨v15, h16, g19⟩ := bind_some g18
  refine ss_parX (eax_cons (ev_if (et_test (ev_op (ev_var rfl) (ev_cb (ea_cons (ev_var rfl) ea_nil) cs_lenQ) os_lt)) (fun c7 => by
        have g8 := if_t h6 c7
        obtain ⟨x1, h2, g9⟩ := bind_some g8
        exact ev_eq (ev_op (ev_var rfl) (ev_var rfl) (os_ixQ h2)) (some_eq g9)) (fun c10 => by
        have g11 := if_f h6 c10
        obtain ⟨x3, h4, g12⟩ := bind_some g11
        exact ev_eq (ev_op (ev_eq (ev_op ev_int (ev_var rfl) (os_mul (mulO_some h4).2)) (mulO_some h4).1.symm) (ev_cb (ea_cons (ev_var rfl) ea_nil) cs_lenQ) os_add) (some_eq g12))) (eax_cons (ev_eq (ev_op ev_int (ev_eq (ev_op ev_int (ev_var rfl) (os_mul (mulO_some h14).2)) (mulO_some h14).1.symm) os_add) (some_eq h16)) eax_nil)) (fun _ _ _ hk54 => ?_) (fun _ _ hk54 => by obtain ⟨_, rfl, _, rfl, rfl, rfl⟩ := hk54; rfl)
  obtain ⟨_, e55, hk54⟩ := hk54
  cases e55
  obtain ⟨_, e55, hk54⟩ := hk54
  cases e55
  obtain ⟨_, rfl⟩ := hk54
  obtain ⟨s35, h36, g37⟩ := bind_some g19
  refine ss_forO (js := [4, 5]) h36 (fun (s20 : Int) => [some (tv (v_script : Sq)), some (tv (v_turn : Int)), some (tv (x5 : Int)), some (tv (s20 : Int)), none, none]) (fun (s20 : Int) => []) (ei_enum (ea_cons (ev_of (evn_sliceQ (ev_var rfl) eo_none (eo_some ev_int))) ea_nil) fun _ _ _ hf h => en_val hf h) (.cons (.inr rfl) (.cons (.inr rfl) (.cons (.inr rfl) (.cons (.inr rfl) (.cons (.inl rfl) (.cons (.inl rfl) .nil)))))) rfl ?_ ?_
  · intro s20 a22 s21 h23 g24
    refine ⟨_, tg_pair, ?_⟩
    refine ss_end ?_
    obtain ⟨x26, h27, g32⟩ := bind_some g24
    obtain ⟨x28, h29, g33⟩ := bind_some g32
    obtain ⟨x30, h31, g34⟩ := bind_some g33
    refine ss_set (ev_eq (ev_op (ev_cb (ea_cons (ev_op (ev_op (ev_op (ev_eq (ev_op (ev_var rfl) ev_int (os_mul (mulO_some h27).2)) (mulO_some h27).1.symm) (ev_var rfl) os_add) (ev_eq (ev_op ev_int (ev_var rfl) (os_mul (mulO_some h29).2)) (mulO_some h29).1.symm) os_add) ev_int os_add) ea_nil) cs_int) ev_int (os_mod (modO_some h31).2)) (modO_some h31).1.symm) ?_
    cases g34
    exact ss_goal (.cons (.inr rfl) (.cons (.inr rfl) (.cons (.inr rfl) (.cons (.inr rfl) (.cons (.inl rfl) (.cons (.inl rfl) .nil)))))) .slnil
  · refine ss_end ?_
    refine ss_retS ?_
    obtain ⟨x38, h39, g50⟩ := bind_some g37
    obtain ⟨x40, h41, g51⟩ := bind_some g50
    obtain ⟨x46, h47, g52⟩ := bind_some g51
    obtain ⟨x48, h49, g53⟩ := bind_some g52
    cases g53
    exact ss_retNG (evn_lst (xs := ([x40, x48, (0 : Int)] : List Int)) (ea_cons (ev_if (et_test (ev_op (ev_var rfl) (ev_eq (ev_op ev_int ev_int (os_pow (powO_some h39).2)) (powO_some h39).1.symm) os_ge)) (fun c42 => by
        have g43 := if_t h41 c42
        
        exact ev_eq (ev_var rfl) (some_eq g43)) (fun c44 => by
        have g45 := if_f h41 c44
        
        exact ev_eq ev_int (some_eq g45))) (ea_cons (ev_eq (ev_op (ev_cb (ea_cons (ev_op (ev_var rfl) (ev_eq (ev_op (ev_var rfl) ev_int (os_mul (mulO_some h47).2)) (mulO_some h47).1.symm) os_add) ea_nil) cs_int) ev_int (os_mod (modO_some h49).2)) (modO_some h49).1.symm) (ea_cons ev_int ea_nil))) (szn (by show 3 ≤ 1000; decide))) (.slnil) rfl
theorem w__law_draw (A : Facts P K mg base) : FnOk P w K mg base CX0 (0 + 1) A.f__law_draw A.fd__law_draw ["spring", "many"] (SpV (S__law_draw) K) := by
  refine A.F__law_draw.ok sc__law_draw (len_v (fun args C r C' h => by obtain ⟨_, _, _, _, _, rfl, _⟩ := h; rfl)) (fun cdv AA outer s H vs Q E hr h => ?_)
  have nd := sc__law_draw.nd
  refine ⟨_, (pss_cons (ps_if (pt_cmpR op_gt (pe_ix (r := rIxL K) ix_list (pv 0) pe_int (fun _ _ => rfl)) pe_int (nomark _)) (pss_cons (ps_set (i := 2) nd rfl (by first | exact .inl rfl | exact .inr rfl) (pe_op op_mod (pe_callTy call_int1 (by rfl) A.n_int (by decide +kernel) (pa_cons (pe_ix (r := rIxL K) ix_list (pv 0) pe_int (fun _ _ => rfl)) pa_nil)) (pv 1)))
      (pss_cons (ps_asg (pe_op op_fdivW (pe_ix (r := rIxL K) ix_list (pv 0) pe_int (fun _ _ => rfl)) (pv 1)) (pg_sub (pv 0) pe_int set_list (by intros; rfl)))
      (pss_one (ps_ret (pv 2))))) pss_nil)
      (pss_cons (ps_asg (pe_op op_add (pe_ix (r := rIxL K) ix_list (pv 0) pe_int (fun _ _ => rfl)) pe_int) (pg_sub (pv 0) pe_int set_list (by intros; rfl)))
      (pss_cons (ps_set (i := 3) nd rfl (by first | exact .inl rfl | exact .inr rfl) (pe_op op_mod (pe_op op_pow (pe_callTy call_int1 (by rfl) A.n_int (by decide +kernel) (pa_cons (pe_op op_add (pe_op op_add (pe_ix (r := rIxL K) ix_list (pv 0) pe_int (fun _ _ => rfl)) (pe_op op_mul pe_int (pe_ix (r := rIxL K) ix_list (pv 0) pe_int (fun _ _ => rfl)))) pe_int) pa_nil)) pe_int) pe_int))
      (pss_one (ps_ret (pe_op op_mod (pe_op op_fdivW (pe_op op_mod (pe_op op_pow (pe_callTy call_int1 (by rfl) A.n_int (by decide +kernel) (pa_cons (pe_op op_add (pe_op op_mul (pv 3) pe_int) (pe_op op_mul pe_int (pe_ix (r := rIxL K) ix_list (pv 0) pe_int (fun _ _ => rfl)))) pa_nil)) pe_int) pe_int) pe_int) (pv 1))))))), ?_⟩
  refine body_v h fun B args C r C' hK hP hS => ?_
  obtain ⟨p_spring, v_spring, v_many, res, w_spring, rfl, rfl, g0, rfl, rfl⟩ := hS
  subst hK
  obtain ⟨x1, h2, g3⟩ := bind_some g0
  refine ss_if (et_test (ev_op (ev_op (ev_var rfl) ev_int (os_ix (ls_cell List.mem_cons_self) h2)) ev_int os_gt)) (fun c4 => ?_) (fun c21 => ?_)
  · have g5 := if_t g3 c4
    refine ss_assoc ?_
    obtain ⟨x6, h7, g10⟩ := bind_some g5
    obtain ⟨x8, h9, g11⟩ := bind_some g10
    refine ss_set (ev_eq (ev_op (ev_cb (ea_cons (ev_op (ev_var rfl) ev_int (os_ix (ls_cell List.mem_cons_self) h7)) ea_nil) cs_int) (ev_var rfl) (os_mod (modO_some h9).2)) (modO_some h9).1.symm) ?_
    refine ss_assoc ?_
    obtain ⟨x12, h13, g18⟩ := bind_some g11
    obtain ⟨x14, h15, g19⟩ := bind_some g18
    obtain ⟨l16, h17, g20⟩ := bind_some g19
    refine ss_iset (k := 0) (ev_eq (ev_op (ev_op (ev_var rfl) ev_int (os_ix (ls_cell List.mem_cons_self) h13)) (ev_var rfl) (os_fdivW (fdivWO_some h15).2)) (fdivWO_some h15).1.symm) (ev_var rfl) ev_int rfl h17 ?_
    refine ss_retS ?_
    cases g20
    exact ss_retVG (ev_var rfl) ((.cons₂ _ .slnil)) rfl
  · have g22 := if_f g3 c21
    refine ss_skip ?_
    obtain ⟨x23, h24, g27⟩ := bind_some g22
    obtain ⟨l25, h26, g28⟩ := bind_some g27
    refine ss_iset (k := 0) (ev_op (ev_op (ev_var rfl) ev_int (os_ix (ls_cell List.mem_cons_self) h24)) ev_int os_add) (ev_var rfl) ev_int rfl h26 ?_
    obtain ⟨x29, h30, g39⟩ := bind_some g28
    obtain ⟨x31, h32, g40⟩ := bind_some g39
    obtain ⟨x33, h34, g41⟩ := bind_some g40
    obtain ⟨x35, h36, g42⟩ := bind_some g41
    obtain ⟨x37, h38, g43⟩ := bind_some g42
    refine ss_set (ev_eq (ev_op (ev_eq (ev_op (ev_cb (ea_cons (ev_op (ev_op (ev_op (ev_var rfl) ev_int (os_ix (ls_cell List.mem_cons_self) h30)) (ev_eq (ev_op ev_int (ev_op (ev_var rfl) ev_int (os_ix (ls_cell List.mem_cons_self) h32)) (os_mul (mulO_some h34).2)) (mulO_some h34).1.symm) os_add) ev_int os_add) ea_nil) cs_int) ev_int (os_pow (powO_some h36).2)) (powO_some h36).1.symm) ev_int (os_mod (modO_some h38).2)) (modO_some h38).1.symm) ?_
    refine ss_end ?_
    refine ss_retS ?_
    obtain ⟨x44, h45, g58⟩ := bind_some g43
    obtain ⟨x46, h47, g59⟩ := bind_some g58
    obtain ⟨x48, h49, g60⟩ := bind_some g59
    obtain ⟨x50, h51, g61⟩ := bind_some g60
    obtain ⟨x52, h53, g62⟩ := bind_some g61
    obtain ⟨x54, h55, g63⟩ := bind_some g62
    obtain ⟨x56, h57, g64⟩ := bind_some g63
    cases g64
    exact ss_retVG (ev_eq (ev_op (ev_eq (ev_op (ev_eq (ev_op (ev_eq (ev_op (ev_cb (ea_cons (ev_op (ev_eq (ev_op (ev_var rfl) ev_int (os_mul (mulO_some h45).2)) (mulO_some h45).1.symm) (ev_eq (ev_op ev_int (ev_op (ev_var rfl) ev_int (os_ix (ls_cell List.mem_cons_self) h47)) (os_mul (mulO_some h49).2)) (mulO_some h49).1.symm) os_add) ea_nil) cs_int) ev_int (os_pow (powO_some h51).2)) (powO_some h51).1.symm) ev_int (os_mod (modO_some h53).2)) (modO_some h53).1.symm) ev_int (os_fdivW (fdivWO_some h55).2)) (fdivWO_some h55).1.symm) (ev_var rfl) (os_mod (modO_some h57).2)) (modO_some h57).1.symm) ((.cons₂ _ .slnil)) rfl
theorem w__law_pick (A : Facts P K mg base) : FnOk P w K mg base CX0 (1 + 1) A.f__law_pick A.fd__law_pick ["spring", "some"] (SpV (S__law_pick) K) := by
  refine A.F__law_pick.ok sc__law_pick (len_v (fun args C r C' h => by obtain ⟨_, _, _, _, _, _, _, rfl, _⟩ := h; rfl)) (fun cdv AA outer s H vs Q E hr h => ?_)
  have nd := sc__law_pick.nd
  have hr1 : Room 1 _ := hr.mono (by decide)
  refine ⟨_, (pss_one (ps_ret (pe_ix (r := rIxL K) ix_list (pv 1) (pe_call (w__law_draw (P := P) (w := w) A) hr1 (by rfl) A.g__law_draw A.F__law_draw.kp A.b__law_draw .nil pass0 (pa_cons (pv 0) (pa_cons (pe_callB (r := T.rLen K) call_len_seq (by rfl) A.n_len (by decide +kernel) (pa_cons (pv 1) pa_nil)) pa_nil))) (fun _ _ => rfl)))), ?_⟩
  refine body_v h fun B args C r C' hK hP hS => ?_
  obtain ⟨α, iα, p_spring, v_spring, v_some, res, w_spring, rfl, rfl, g0, rfl, rfl⟩ := hS
  subst hK
  refine ss_end ?_
  refine ss_retS ?_
  obtain ⟨x1, h2, g5⟩ := bind_some g0
  obtain ⟨x3, h4, g6⟩ := bind_some g5
  cases g6
  exact ss_retVG (ev_op (ev_var rfl) (ev_call1 (k := 0) (ea_cons (ev_var rfl) (ea_cons (ev_cb (ea_cons (ev_var rfl) ea_nil) (cs_len (ls_val))) ea_nil)) rfl ⟨p_spring, v_spring, (v_some.length : Int), x1.1, x1.2, rfl, rfl, h2, rfl, rfl⟩) (os_ix (ls_val) h4)) ((.cons₂ _ .slnil)) rfl
theorem w__law_e_drawn (A : Facts P K mg base) : FnOk P w K mg base CX0 (2 + 1) A.f__law_e_drawn A.fd__law_e_drawn ["spring"] (SpV (S__law_e_drawn) K) := by
  refine A.F__law_e_drawn.ok sc__law_e_drawn (len_v (fun args C r C' h => by obtain ⟨_, _, _, _, rfl, _⟩ := h; rfl)) (fun cdv AA outer s H vs Q E hr h => ?_)
  have nd := sc__law_e_drawn.nd
  have hr1 : Room 1 _ := hr.mono (by decide)
  have hr2 : Room 2 _ := hr.mono (by decide)
  refine ⟨_, (pss_cons (ps_set (i := 1) nd rfl (by first | exact .inl rfl | exact .inr rfl) (pe_call (w__law_draw (P := P) (w := w) A) hr1 (by rfl) A.g__law_draw A.F__law_draw.kp A.b__law_draw .nil pass0 (pa_cons (pv 0) (pa_cons pe_int pa_nil))))
      (pss_cons (ps_if (pt_cmpR op_eq (pv 1) pe_int (nomark _)) (pss_one (ps_ret (pe_op op_sub (pe_call (w__law_draw (P := P) (w := w) A) hr1 (by rfl) A.g__law_draw A.F__law_draw.kp A.b__law_draw .nil pass0 (pa_cons (pv 0) (pa_cons (pe_op op_pow pe_int pe_int) pa_nil))) (pe_op op_pow pe_int pe_int)))) pss_nil)
      (pss_cons (ps_if (pt_cmpR op_eq (pv 1) pe_int (nomark _)) (pss_one (ps_ret (pe_call (w__law_pick (P := P) (w := w) A) hr2 (by rfl) A.g__law_pick A.F__law_pick.kp A.b__law_pick .nil pass0 (pa_cons (pv 0) (pa_cons (pe_lst (pa_cons pe_str (pa_cons pe_str (pa_cons pe_str (pa_cons pe_str (pa_cons pe_str pa_nil)))))) pa_nil))))) pss_nil)
      (pss_cons (ps_if (pt_cmpR op_eq (pv 1) pe_int (nomark _)) (pss_one (ps_ret (pe_call (w__law_pick (P := P) (w := w) A) hr2 (by rfl) A.g__law_pick A.F__law_pick.kp A.b__law_pick .nil pass0 (pa_cons (pv 0) (pa_cons (pe_lst (pa_cons pe_non (pa_cons pe_bl (pa_cons pe_bl (pa_cons pe_int (pa_cons pe_int pa_nil)))))) pa_nil))))) pss_nil)
      (pss_cons (ps_if (pt_cmpR (r := rIn K false) op_in_seq (pv 1) (pe_lst (pa_cons pe_int (pa_cons pe_int pa_nil))) (by rfl)) (pss_one (ps_ret (pe_lc (own := [("k", 2)]) (g := gName 2) rfl nd (pi_range1 rfl A.n_range (pa_cons (pe_call (w__law_draw (P := P) (w := w) A) hr1 (by rfl) A.g__law_draw A.F__law_draw.kp A.b__law_draw .nil pass0 (pa_cons (pv 0) (pa_cons pe_int pa_nil))) pa_nil)) (blkOk_by (own := [("k", 2)]) (N := N__law_e_drawn) (sc := defScope s__law_e_drawn) (by decide +kernel)) (fun _ _ _ _ _ => pg_name (i := 2) nd rfl (by first | exact .inl rfl | exact .inr rfl)) (fun _ _ _ _ _ => pts_nil) (fun _ _ _ _ _ => (pe_call (w__law_draw (P := P) (w := w) A) hr1 (by rfl) A.g__law_draw A.F__law_draw.kp A.b__law_draw .nil pass0 (pa_cons (pv 0) (pa_cons pe_int pa_nil))))))) pss_nil)
      (pss_cons (ps_if (pt_cmpR op_eq (pv 1) pe_int (nomark _)) (pss_one (ps_ret (pe_callTy (r := T.rTupOf K) call_tuple_of (by rfl) A.n_tuple (by decide +kernel) (pa_cons (pe_lc (own := [("k", 2)]) (g := gName 2) rfl nd (pi_range1 rfl A.n_range (pa_cons (pe_call (w__law_draw (P := P) (w := w) A) hr1 (by rfl) A.g__law_draw A.F__law_draw.kp A.b__law_draw .nil pass0 (pa_cons (pv 0) (pa_cons pe_int pa_nil))) pa_nil)) (blkOk_by (own := [("k", 2)]) (N := N__law_e_drawn) (sc := defScope s__law_e_drawn) (by decide +kernel)) (fun _ _ _ _ _ => pg_name (i := 2) nd rfl (by first | exact .inl rfl | exact .inr rfl)) (fun _ _ _ _ _ => pts_nil) (fun _ _ _ _ _ => (pe_call (w__law_draw (P := P) (w := w) A) hr1 (by rfl) A.g__law_draw A.F__law_draw.kp A.b__law_draw .nil pass0 (pa_cons (pv 0) (pa_cons pe_int pa_nil))))) pa_nil)))) pss_nil)
      (pss_one (ps_ret (pe_callTy (call_dictP rfl) (by rfl) A.n_dict (by decide +kernel) (pa_cons (pe_lc (own := [("k", 2)]) (g := gName 2) rfl nd (pi_range1 rfl A.n_range (pa_cons (pe_call (w__law_draw (P := P) (w := w) A) hr1 (by rfl) A.g__law_draw A.F__law_draw.kp A.b__law_draw .nil pass0 (pa_cons (pv 0) (pa_cons pe_int pa_nil))) pa_nil)) (blkOk_by (own := [("k", 2)]) (N := N__law_e_drawn) (sc := defScope s__law_e_drawn) (by decide +kernel)) (fun _ _ _ _ _ => pg_name (i := 2) nd rfl (by first | exact .inl rfl | exact .inr rfl)) (fun _ _ _ _ _ => pts_nil) (fun _ _ _ _ _ => (pe_tup (pa_cons (pe_call (w__law_draw (P := P) (w := w) A) hr1 (by rfl) A.g__law_draw A.F__law_draw.kp A.b__law_draw .nil pass0 (pa_cons (pv 0) (pa_cons pe_int pa_nil))) (pa_cons pe_str pa_nil))))) pa_nil)))))))))), ?_⟩
  refine body_v h fun B args C r C' hK hP hS => ?_
  obtain ⟨p_spring, v_spring, res, w_spring, rfl, rfl, g0, rfl, rfl⟩ := hS
  subst hK
  obtain ⟨x1, h2, g5⟩ := bind_some g0
  obtain ⟨way3, h4, g6⟩ := bind_some g5
  refine ss_set (ev_eq (ev_call1 (k := 0) (ea_cons (ev_var rfl) (ea_cons ev_int ea_nil)) rfl ⟨p_spring, v_spring, (9 : Int), x1.1, x1.2, rfl, rfl, h2, rfl, rfl⟩) (some_eq h4)) ?_
  refine ss_if (et_test (ev_op (ev_var rfl) ev_int os_eq)) (fun c7 => ?_) (fun c18 => ?_)
  · have g8 := if_t g6 c7
    refine ss_retS ?_
    obtain ⟨x9, h10, g15⟩ := bind_some g8
    obtain ⟨x11, h12, g16⟩ := bind_some g15
    obtain ⟨x13, h14, g17⟩ := bind_some g16
    cases g17
    exact ss_retVG (ev_toD (ev_op (ev_call1 (k := 0) (ea_cons (ev_var rfl) (ea_cons (ev_eq (ev_op ev_int ev_int (os_pow (powO_some h10).2)) (powO_some h10).1.symm) ea_nil)) rfl ⟨p_spring, x1.2, x9, x11.1, x11.2, rfl, rfl, h12, rfl, rfl⟩) (ev_eq (ev_op ev_int ev_int (os_pow (powO_some h14).2)) (powO_some h14).1.symm) os_sub)) ((.cons₂ _ .slnil)) rfl
  · have g19 := if_f g6 c18
    refine ss_skip ?_
    refine ss_if (et_test (ev_op (ev_var rfl) ev_int os_eq)) (fun c20 => ?_) (fun c25 => ?_)
    · have g21 := if_t g19 c20
      refine ss_retS ?_
      obtain ⟨x22, h23, g24⟩ := bind_some g21
      cases g24
      exact ss_retVG (ev_toD (ev_call1 (k := 0) (ea_cons (ev_var rfl) (ea_cons (ev_of (evn_lst (xs := ([(Str.ofString ""), (Str.ofString "a"), (Str.ofString "late"), (Str.ofString "two words"), (Str.ofString "x9")] : List Str)) (ea_cons ev_str (ea_cons ev_str (ea_cons ev_str (ea_cons ev_str (ea_cons ev_str ea_nil))))) (szn (by show 5 ≤ 1000; decide)))) ea_nil)) rfl ⟨Str, inferInstance, p_spring, x1.2, ([(Str.ofString ""), (Str.ofString "a"), (Str.ofString "late"), (Str.ofString "two words"), (Str.ofString "x9")] : List Str), x22.1, x22.2, rfl, rfl, h23, rfl, rfl⟩)) ((.cons₂ _ .slnil)) rfl
    · have g26 := if_f g19 c25
      refine ss_skip ?_
      refine ss_if (et_test (ev_op (ev_var rfl) ev_int os_eq)) (fun c27 => ?_) (fun c32 => ?_)
      · have g28 := if_t g26 c27
        refine ss_retS ?_
        obtain ⟨x29, h30, g31⟩ := bind_some g28
        cases g31
        exact ss_retVG (ev_call1 (k := 0) (ea_cons (ev_var rfl) (ea_cons (ev_of (evn_lst (xs := ([(AsD.toD (() : Unit)), (AsD.toD (true : Bool)), (AsD.toD (false : Bool)), (AsD.toD ((0 : Int) : Int)), (AsD.toD ((1 : Int) : Int))] : List D)) (ea_cons (ev_toD ev_non) (ea_cons (ev_toD ev_bl) (ea_cons (ev_toD ev_bl) (ea_cons (ev_toD ev_int) (ea_cons (ev_toD ev_int) ea_nil))))) (szn (by show 5 ≤ 1000; decide)))) ea_nil)) rfl ⟨D, inferInstance, p_spring, x1.2, ([(AsD.toD (() : Unit)), (AsD.toD (true : Bool)), (AsD.toD (false : Bool)), (AsD.toD ((0 : Int) : Int)), (AsD.toD ((1 : Int) : Int))] : List D), x29.1, x29.2, rfl, rfl, h30, rfl, rfl⟩) ((.cons₂ _ .slnil)) rfl
      · have g33 := if_f g26 c32
        refine ss_skip ?_
        refine ss_if (et_test (ev_op (ev_var rfl) (ev_of (evn_lst (xs := ([(3 : Int), (4 : Int)] : List Int)) (ea_cons ev_int (ea_cons ev_int ea_nil)) (szn (by show 2 ≤ 1000; decide)))) (os_in (ls_val)))) (fun c34 => ?_) (fun c56 => ?_)
        · have g35 := if_t g33 c34
          refine ss_retS ?_
          obtain ⟨x36, h37, g53⟩ := bind_some g35
          obtain ⟨r38, h39, g54⟩ := bind_some g53
          obtain ⟨l46, h47, g55⟩ := bind_some g54
          cases g55
          exact ss_retVG (ev_toD (ev_of (evn_lcS h47 (fun (s41 : (List Int)) => [(p_spring, Ct.lst (s41 : (List Int)))]) (ei_rngO1 (ea_cons (ev_call1 (k := 0) (ea_cons (ev_var rfl) (ea_cons ev_int ea_nil)) rfl ⟨p_spring, x1.2, (4 : Int), x36.1, x36.2, rfl, rfl, h37, rfl, rfl⟩) ea_nil) h39) rfl (js := [2]) (by decide) (fun s41 a40 y48 s50 p42 acc43 h51 h49 => by
          obtain ⟨x44, h45, g52⟩ := bind_some h49
          cases g52
          exact ⟨_, tg_name, (ev_call1 (k := 1) (ea_cons (ev_var rfl) (ea_cons ev_int ea_nil)) rfl ⟨p_spring, s41, (9 : Int), x44.1, x44.2, rfl, rfl, h45, rfl, rfl⟩)⟩)))) ((.cons₂ _ .slnil)) rfl
        · have g57 := if_f g33 c56
          refine ss_skip ?_
          refine ss_if (et_test (ev_op (ev_var rfl) ev_int os_eq)) (fun c58 => ?_) (fun c80 => ?_)
          · have g59 := if_t g57 c58
            refine ss_retS ?_
            obtain ⟨x60, h61, g77⟩ := bind_some g59
            obtain ⟨r62, h63, g78⟩ := bind_some g77
            obtain ⟨l70, h71, g79⟩ := bind_some g78
            cases g79
            exact ss_retVG (ev_toD (ev_tupleOf (ea_cons (ev_of (evn_lcS h71 (fun (s65 : (List Int)) => [(p_spring, Ct.lst (s65 : (List Int)))]) (ei_rngO1 (ea_cons (ev_call1 (k := 0) (ea_cons (ev_var rfl) (ea_cons ev_int ea_nil)) rfl ⟨p_spring, x1.2, (4 : Int), x60.1, x60.2, rfl, rfl, h61, rfl, rfl⟩) ea_nil) h63) rfl (js := [2]) (by decide) (fun s65 a64 y72 s74 p66 acc67 h75 h73 => by
          obtain ⟨x68, h69, g76⟩ := bind_some h73
          cases g76
          exact ⟨_, tg_name, (ev_call1 (k := 1) (ea_cons (ev_var rfl) (ea_cons ev_int ea_nil)) rfl ⟨p_spring, s65, (9 : Int), x68.1, x68.2, rfl, rfl, h69, rfl, rfl⟩)⟩))) ea_nil) (ls_val))) ((.cons₂ _ .slnil)) rfl
          · have g81 := if_f g57 c80
            refine ss_skip ?_
            refine ss_end ?_
            refine ss_retS ?_
            obtain ⟨x82, h83, g99⟩ := bind_some g81
            obtain ⟨r84, h85, g100⟩ := bind_some g99
            obtain ⟨l92, h93, g101⟩ := bind_some g100
            cases g101
            exact ss_retVG (ev_dct (evn_cb (ea_cons (ev_of (evn_lcS h93 (fun (s87 : (List Int)) => [(p_spring, Ct.lst (s87 : (List Int)))]) (ei_rngO1 (ea_cons (ev_call1 (k := 0) (ea_cons (ev_var rfl) (ea_cons ev_int ea_nil)) rfl ⟨p_spring, x1.2, (4 : Int), x82.1, x82.2, rfl, rfl, h83, rfl, rfl⟩) ea_nil) h85) rfl (js := [2]) (by decide) (fun s87 a86 y94 s96 p88 acc89 h97 h95 => by
          obtain ⟨x90, h91, g98⟩ := bind_some h95
          cases g98
          exact ⟨_, tg_name, (ev_pair (ea_cons (ev_call1 (k := 1) (ea_cons (ev_var rfl) (ea_cons ev_int ea_nil)) rfl ⟨p_spring, s87, (9 : Int), x90.1, x90.2, rfl, rfl, h91, rfl, rfl⟩) (ea_cons ev_str ea_nil)))⟩))) ea_nil) (cn_dictP (ls_val)))) ((.cons₂ _ .slnil)) rfl
end K00
set_option Elab.async false
set_option linter.all false
set_option maxRecDepth 100000
set_option maxHeartbeats 4000000
set_option autoImplicit false
namespace K00
open PySem PySem.Spec PyProof.Rows L2 T
open PySem.W (Frag)
variable {P : Program} {w : World} {K : PySem.W.Frag} {mg : Str → Option Value} {base : Heap}
theorem w__law_e_kinds (A : Facts P K mg base) : FnOk P w K mg base CX0 (0 + 1) A.f__law_e_kinds A.fd__law_e_kinds ["e"] (SpN (S__law_e_kinds (ZZ := A.ZZ)) K) := by
  refine A.F__law_e_kinds.ok sc__law_e_kinds (len_n (fun args C r C' h => by obtain ⟨_, _, rfl, _⟩ := h; rfl)) (fun cdv AA outer s H vs Q E hr h => ?_)
  have nd := sc__law_e_kinds.nd
  refine ⟨_, (pss_one (ps_ret (pe_lst (pa_cons (pe_callB (r := rIsEv K) call_isEv (by rfl) A.n_isinstance (by decide +kernel) (pa_cons (pv 0) (pa_cons (pe_glob (v := .ref A.ZZ.C_BadNames) (by rfl) A.E_BadNames.gC rfl) pa_nil))) (pa_cons (pe_callB (r := rIsEv K) call_isEv (by rfl) A.n_isinstance (by decide +kernel) (pa_cons (pv 0) (pa_cons (pe_glob (v := .ref A.ZZ.C_BadEights) (by rfl) A.E_BadEights.gC rfl) pa_nil))) (pa_cons (pe_callB (r := rIsEv K) call_isEv (by rfl) A.n_isinstance (by decide +kernel) (pa_cons (pv 0) (pa_cons (pe_glob (v := .ref A.ZZ.C_NoName) (by rfl) A.E_NoName.gC rfl) pa_nil))) (pa_cons (pe_callB (r := rIsEv K) call_isEv (by rfl) A.n_isinstance (by decide +kernel) (pa_cons (pv 0) (pa_cons (pe_glob (v := .ref A.ZZ.C_BadLot) (by rfl) A.E_BadLot.gC rfl) pa_nil))) (pa_cons (pe_callB (r := rIsEv K) call_isEv (by rfl) A.n_isinstance (by decide +kernel) (pa_cons (pv 0) (pa_cons (pe_glob (v := .ref A.ZZ.C_BadFive) (by rfl) A.E_BadFive.gC rfl) pa_nil))) (pa_cons (pe_callB (r := rIsEv K) call_isEv (by rfl) A.n_isinstance (by decide +kernel) (pa_cons (pv 0) (pa_cons (pe_glob (v := .ref A.ZZ.C_BadImage) (by rfl) A.E_BadImage.gC rfl) pa_nil))) (pa_cons (pe_callB (r := rIsEv K) call_isEv (by rfl) A.n_isinstance (by decide +kernel) (pa_cons (pv 0) (pa_cons (pe_glob (v := .ref A.ZZ.C_BadNumber) (by rfl) A.E_BadNumber.gC rfl) pa_nil))) (pa_cons (pe_callB (r := rIsEv K) call_isEv (by rfl) A.n_isinstance (by decide +kernel) (pa_cons (pv 0) (pa_cons (pe_glob (v := .ref A.ZZ.C_BadEight) (by rfl) A.E_BadEight.gC rfl) pa_nil))) (pa_cons (pe_callB (r := rIsEv K) call_isEv (by rfl) A.n_isinstance (by decide +kernel) (pa_cons (pv 0) (pa_cons (pe_glob (v := .ref A.ZZ.C_BadRows) (by rfl) A.E_BadRows.gC rfl) pa_nil))) (pa_cons (pe_callB (r := rIsEv K) call_isEv (by rfl) A.n_isinstance (by decide +kernel) (pa_cons (pv 0) (pa_cons (pe_glob (v := .ref A.ZZ.C_BadSeven) (by rfl) A.E_BadSeven.gC rfl) pa_nil))) (pa_cons (pe_callB (r := rIsEv K) call_isEv (by rfl) A.n_isinstance (by decide +kernel) (pa_cons (pv 0) (pa_cons (pe_glob (v := .ref A.ZZ.C_BadMap) (by rfl) A.E_BadMap.gC rfl) pa_nil))) (pa_cons (pe_callB (r := rIsEv K) call_isEv (by rfl) A.n_isinstance (by decide +kernel) (pa_cons (pv 0) (pa_cons (pe_glob (v := .ref A.ZZ.C_BadSigns) (by rfl) A.E_BadSigns.gC rfl) pa_nil))) (pa_cons (pe_callB (r := rIsEv K) call_isEv (by rfl) A.n_isinstance (by decide +kernel) (pa_cons (pv 0) (pa_cons (pe_glob (v := .ref A.ZZ.C_BadNumbers) (by rfl) A.E_BadNumbers.gC rfl) pa_nil))) (pa_cons (pe_callB (r := rIsEv K) call_isEv (by rfl) A.n_isinstance (by decide +kernel) (pa_cons (pv 0) (pa_cons (pe_glob (v := .ref A.ZZ.C_BadQuestion) (by rfl) A.E_BadQuestion.gC rfl) pa_nil))) (pa_cons (pe_callB (r := rIsEv K) call_isEv (by rfl) A.n_isinstance (by decide +kernel) (pa_cons (pv 0) (pa_cons (pe_glob (v := .ref A.ZZ.C_BadHalf) (by rfl) A.E_BadHalf.gC rfl) pa_nil))) (pa_cons (pe_callB (r := rIsEv K) call_isEv (by rfl) A.n_isinstance (by decide +kernel) (pa_cons (pv 0) (pa_cons (pe_glob (v := .ref A.ZZ.C_BadFour) (by rfl) A.E_BadFour.gC rfl) pa_nil))) (pa_cons (pe_callB (r := rIsEv K) call_isEv (by rfl) A.n_isinstance (by decide +kernel) (pa_cons (pv 0) (pa_cons (pe_glob (v := .ref A.ZZ.C_BadSextet) (by rfl) A.E_BadSextet.gC rfl) pa_nil))) (pa_cons (pe_callB (r := rIsEv K) call_isEv (by rfl) A.n_isinstance (by decide +kernel) (pa_cons (pv 0) (pa_cons (pe_glob (v := .ref A.ZZ.C_BadKind) (by rfl) A.E_BadKind.gC rfl) pa_nil))) (pa_cons (pe_callB (r := rIsEv K) call_isEv (by rfl) A.n_isinstance (by decide +kernel) (pa_cons (pv 0) (pa_cons (pe_glob (v := .ref A.ZZ.C_NotApart) (by rfl) A.E_NotApart.gC rfl) pa_nil))) (pa_cons (pe_callB (r := rIsEv K) call_isEv (by rfl) A.n_isinstance (by decide +kernel) (pa_cons (pv 0) (pa_cons (pe_glob (v := .ref A.ZZ.C_BadTrio) (by rfl) A.E_BadTrio.gC rfl) pa_nil))) (pa_cons (pe_callB (r := rIsEv K) call_isEv (by rfl) A.n_isinstance (by decide +kernel) (pa_cons (pv 0) (pa_cons (pe_glob (v := .ref A.ZZ.C_BadTwelve) (by rfl) A.E_BadTwelve.gC rfl) pa_nil))) (pa_cons (pe_callB (r := rIsEv K) call_isEv (by rfl) A.n_isinstance (by decide +kernel) (pa_cons (pv 0) (pa_cons (pe_glob (v := .ref A.ZZ.C_BadSix) (by rfl) A.E_BadSix.gC rfl) pa_nil))) (pa_cons (pe_callB (r := rIsEv K) call_isEv (by rfl) A.n_isinstance (by decide +kernel) (pa_cons (pv 0) (pa_cons (pe_glob (v := .ref A.ZZ.C_BadLine) (by rfl) A.E_BadLine.gC rfl) pa_nil))) (pa_cons (pe_callB (r := rIsEv K) call_isEv (by rfl) A.n_isinstance (by decide +kernel) (pa_cons (pv 0) (pa_cons (pe_glob (v := .ref A.ZZ.C_BadSixes) (by rfl) A.E_BadSixes.gC rfl) pa_nil))) (pa_cons (pe_callB (r := rIsEv K) call_isEv (by rfl) A.n_isinstance (by decide +kernel) (pa_cons (pv 0) (pa_cons (pe_glob (v := .ref A.ZZ.C_BadRow) (by rfl) A.E_BadRow.gC rfl) pa_nil))) (pa_cons (pe_callB (r := rIsEv K) call_isEv (by rfl) A.n_isinstance (by decide +kernel) (pa_cons (pv 0) (pa_cons (pe_glob (v := .ref A.ZZ.C_BadMarking) (by rfl) A.E_BadMarking.gC rfl) pa_nil))) (pa_cons (pe_callB (r := rIsEv K) call_isEv (by rfl) A.n_isinstance (by decide +kernel) (pa_cons (pv 0) (pa_cons (pe_glob (v := .ref A.ZZ.C_BadMarks) (by rfl) A.E_BadMarks.gC rfl) pa_nil))) (pa_cons (pe_callB (r := rIsEv K) call_isEv (by rfl) A.n_isinstance (by decide +kernel) (pa_cons (pv 0) (pa_cons (pe_glob (v := .ref A.ZZ.C_BadStand) (by rfl) A.E_BadStand.gC rfl) pa_nil))) (pa_cons (pe_callB (r := rIsEv K) call_isEv (by rfl) A.n_isinstance (by decide +kernel) (pa_cons (pv 0) (pa_cons (pe_glob (v := .ref A.ZZ.C_BadLabels) (by rfl) A.E_BadLabels.gC rfl) pa_nil))) (pa_cons (pe_callB (r := rIsEv K) call_isEv (by rfl) A.n_isinstance (by decide +kernel) (pa_cons (pv 0) (pa_cons (pe_glob (v := .ref A.ZZ.C_BadHexa) (by rfl) A.E_BadHexa.gC rfl) pa_nil))) (pa_cons (pe_callB (r := rIsEv K) call_isEv (by rfl) A.n_isinstance (by decide +kernel) (pa_cons (pv 0) (pa_cons (pe_glob (v := .ref A.ZZ.C_BadNode) (by rfl) A.E_BadNode.gC rfl) pa_nil))) (pa_cons (pe_callB (r := rIsEv K) call_isEv (by rfl) A.n_isinstance (by decide +kernel) (pa_cons (pv 0) (pa_cons (pe_glob (v := .ref A.ZZ.C_BadSignRows) (by rfl) A.E_BadSignRows.gC rfl) pa_nil))) (pa_cons (pe_callB (r := rIsEv K) call_isEv (by rfl) A.n_isinstance (by decide +kernel) (pa_cons (pv 0) (pa_cons (pe_glob (v := .ref A.ZZ.C_BadPart) (by rfl) A.E_BadPart.gC rfl) pa_nil))) (pa_cons (pe_callB (r := rIsEv K) call_isEv (by rfl) A.n_isinstance (by decide +kernel) (pa_cons (pv 0) (pa_cons (pe_glob (v := .ref A.ZZ.C_BadRing) (by rfl) A.E_BadRing.gC rfl) pa_nil))) (pa_cons (pe_callB (r := rIsEv K) call_isEv (by rfl) A.n_isinstance (by decide +kernel) (pa_cons (pv 0) (pa_cons (pe_glob (v := .ref A.ZZ.C_BadPlaces) (by rfl) A.E_BadPlaces.gC rfl) pa_nil))) (pa_cons (pe_callB (r := rIsEv K) call_isEv (by rfl) A.n_isinstance (by decide +kernel) (pa_cons (pv 0) (pa_cons (pe_glob (v := .ref A.ZZ.C_BadTrust) (by rfl) A.E_BadTrust.gC rfl) pa_nil))) (pa_cons (pe_callB (r := rIsEv K) call_isEv (by rfl) A.n_isinstance (by decide +kernel) (pa_cons (pv 0) (pa_cons (pe_glob (v := .ref A.ZZ.C_BadWords) (by rfl) A.E_BadWords.gC rfl) pa_nil))) (pa_cons (pe_callB (r := rIsEv K) call_isEv (by rfl) A.n_isinstance (by decide +kernel) (pa_cons (pv 0) (pa_cons (pe_glob (v := .ref A.ZZ.C_BadShape) (by rfl) A.E_BadShape.gC rfl) pa_nil))) (pa_cons (pe_callB (r := rIsEv K) call_isEv (by rfl) A.n_isinstance (by decide +kernel) (pa_cons (pv 0) (pa_cons (pe_glob (v := .ref A.ZZ.C_Within) (by rfl) A.E_Within.gC rfl) pa_nil))) (pa_cons (pe_callB (r := rIsEv K) call_isEv (by rfl) A.n_isinstance (by decide +kernel) (pa_cons (pv 0) (pa_cons (pe_glob (v := .ref A.ZZ.C_Without) (by rfl) A.E_Without.gC rfl) pa_nil))) (pa_cons (pe_callB (r := rIsEv K) call_isEv (by rfl) A.n_isinstance (by decide +kernel) (pa_cons (pv 0) (pa_cons (pe_glob (v := .ref A.ZZ.C_BadStep) (by rfl) A.E_BadStep.gC rfl) pa_nil))) (pa_cons (pe_callB (r := rIsEv K) call_isEv (by rfl) A.n_isinstance (by decide +kernel) (pa_cons (pv 0) (pa_cons (pe_glob (v := .ref A.ZZ.C_BadSteps) (by rfl) A.E_BadSteps.gC rfl) pa_nil))) (pa_cons (pe_callB (r := rIsEv K) call_isEv (by rfl) A.n_isinstance (by decide +kernel) (pa_cons (pv 0) (pa_cons (pe_glob (v := .ref A.ZZ.C_Refused) (by rfl) A.E_Refused.gC rfl) pa_nil))) (pa_cons (pe_callB (r := rIsEv K) call_isEv (by rfl) A.n_isinstance (by decide +kernel) (pa_cons (pv 0) (pa_cons (pe_glob (v := .ref A.ZZ.C_BadJournal) (by rfl) A.E_BadJournal.gC rfl) pa_nil))) (pa_cons (pe_callB (r := rIsEv K) call_isEv (by rfl) A.n_isinstance (by decide +kernel) (pa_cons (pv 0) (pa_cons (pe_glob (v := .ref A.ZZ.C_BadNumbering) (by rfl) A.E_BadNumbering.gC rfl) pa_nil))) (pa_cons (pe_callB (r := rIsEv K) call_isEv (by rfl) A.n_isinstance (by decide +kernel) (pa_cons (pv 0) (pa_cons (pe_glob (v := .ref A.ZZ.C_BadVector) (by rfl) A.E_BadVector.gC rfl) pa_nil))) (pa_cons (pe_callB (r := rIsEv K) call_isEv (by rfl) A.n_isinstance (by decide +kernel) (pa_cons (pv 0) (pa_cons (pe_glob (v := .ref A.ZZ.C_NoVector) (by rfl) A.E_NoVector.gC rfl) pa_nil))) (pa_cons (pe_callB (r := rIsEv K) call_isEv (by rfl) A.n_isinstance (by decide +kernel) (pa_cons (pv 0) (pa_cons (pe_glob (v := .ref A.ZZ.C_TooGreat) (by rfl) A.E_TooGreat.gC rfl) pa_nil))) (pa_cons (pe_callB (r := rIsEv K) call_isEv (by rfl) A.n_isinstance (by decide +kernel) (pa_cons (pv 0) (pa_cons (pe_glob (v := .ref A.ZZ.C_BadText) (by rfl) A.E_BadText.gC rfl) pa_nil))) (pa_cons (pe_callB (r := rIsEv K) call_isEv (by rfl) A.n_isinstance (by decide +kernel) (pa_cons (pv 0) (pa_cons (pe_glob (v := .ref A.ZZ.C_NothingDone) (by rfl) A.E_NothingDone.gC rfl) pa_nil))) (pa_cons (pe_callB (r := rIsEv K) call_isEv (by rfl) A.n_isinstance (by decide +kernel) (pa_cons (pv 0) (pa_cons (pe_glob (v := .ref A.ZZ.C_NothingUndone) (by rfl) A.E_NothingUndone.gC rfl) pa_nil))) pa_nil)))))))))))))))))))))))))))))))))))))))))))))))))))))), ?_⟩
  refine body_n h fun B args C r C' hK hP hS => ?_
  obtain ⟨v_e, res, rfl, rfl, g0, rfl, rfl⟩ := hS
  subst hK
  refine ss_end ?_
  refine ss_retS ?_
  obtain ⟨b1, h2, g103⟩ := bind_some g0
  obtain ⟨b3, h4, g104⟩ := bind_some g103
  obtain ⟨b5, h6, g105⟩ := bind_some g104
  obtain ⟨b7, h8, g106⟩ := bind_some g105
  obtain ⟨b9, h10, g107⟩ := bind_some g106
  obtain ⟨b11, h12, g108⟩ := bind_some g107
  obtain ⟨b13, h14, g109⟩ := bind_some g108
  obtain ⟨b15, h16, g110⟩ := bind_some g109
  obtain ⟨b17, h18, g111⟩ := bind_some g110
  obtain ⟨b19, h20, g112⟩ := bind_some g111
  obtain ⟨b21, h22, g113⟩ := bind_some g112
  obtain ⟨b23, h24, g114⟩ := bind_some g113
  obtain ⟨b25, h26, g115⟩ := bind_some g114
  obtain ⟨b27, h28, g116⟩ := bind_some g115
  obtain ⟨b29, h30, g117⟩ := bind_some g116
  obtain ⟨b31, h32, g118⟩ := bind_some g117
  obtain ⟨b33, h34, g119⟩ := bind_some g118
  obtain ⟨b35, h36, g120⟩ := bind_some g119
  obtain ⟨b37, h38, g121⟩ := bind_some g120
  obtain ⟨b39, h40, g122⟩ := bind_some g121
  obtain ⟨b41, h42, g123⟩ := bind_some g122
  obtain ⟨b43, h44, g124⟩ := bind_some g123
  obtain ⟨b45, h46, g125⟩ := bind_some g124
  obtain ⟨b47, h48, g126⟩ := bind_some g125
  obtain ⟨b49, h50, g127⟩ := bind_some g126
  obtain ⟨b51, h52, g128⟩ := bind_some g127
  obtain ⟨b53, h54, g129⟩ := bind_some g128
  obtain ⟨b55, h56, g130⟩ := bind_some g129
  obtain ⟨b57, h58, g131⟩ := bind_some g130
  obtain ⟨b59, h60, g132⟩ := bind_some g131
  obtain ⟨b61, h62, g133⟩ := bind_some g132
  obtain ⟨b63, h64, g134⟩ := bind_some g133
  obtain ⟨b65, h66, g135⟩ := bind_some g134
  obtain ⟨b67, h68, g136⟩ := bind_some g135
  obtain ⟨b69, h70, g137⟩ := bind_some g136
  obtain ⟨b71, h72, g138⟩ := bind_some g137
  obtain ⟨b73, h74, g139⟩ := bind_some g138
  obtain ⟨b75, h76, g140⟩ := bind_some g139
  obtain ⟨b77, h78, g141⟩ := bind_some g140
  obtain ⟨b79, h80, g142⟩ := bind_some g141
  obtain ⟨b81, h82, g143⟩ := bind_some g142
  obtain ⟨b83, h84, g144⟩ := bind_some g143
  obtain ⟨b85, h86, g145⟩ := bind_some g144
  obtain ⟨b87, h88, g146⟩ := bind_some g145
  obtain ⟨b89, h90, g147⟩ := bind_some g146
  obtain ⟨b91, h92, g148⟩ := bind_some g147
  obtain ⟨b93, h94, g149⟩ := bind_some g148
  obtain ⟨b95, h96, g150⟩ := bind_some g149
  obtain ⟨b97, h98, g151⟩ := bind_some g150
  obtain ⟨b99, h100, g152⟩ := bind_some g151
  obtain ⟨b101, h102, g153⟩ := bind_some g152
  cases g153
  exact ss_retNG (evn_lst (xs := ([b1, b3, b5, b7, b9, b11, b13, b15, b17, b19, b21, b23, b25, b27, b29, b31, b33, b35, b37, b39, b41, b43, b45, b47, b49, b51, b53, b55, b57, b59, b61, b63, b65, b67, b69, b71, b73, b75, b77, b79, b81, b83, b85, b87, b89, b91, b93, b95, b97, b99, b101] : List Bool)) (ea_cons (ev_eq (ev_cb (ea_cons (ev_var rfl) (ea_cons ev_cls ea_nil)) (cs_isEv (fun _ _ _ h => h) (.own _) (A.kit _ (isK_in h2)).1 ((A.kit _ (isK_in h2)).2 _ (Adr.mem_BadNames _)))) (isK_eq h2).symm) (ea_cons (ev_eq (ev_cb (ea_cons (ev_var rfl) (ea_cons ev_cls ea_nil)) (cs_isEv (fun _ _ _ h => h) (.own _) (A.kit _ (isK_in h4)).1 ((A.kit _ (isK_in h4)).2 _ (Adr.mem_BadEights _)))) (isK_eq h4).symm) (ea_cons (ev_eq (ev_cb (ea_cons (ev_var rfl) (ea_cons ev_cls ea_nil)) (cs_isEv (fun _ _ _ h => h) (.own _) (A.kit _ (isK_in h6)).1 ((A.kit _ (isK_in h6)).2 _ (Adr.mem_NoName _)))) (isK_eq h6).symm) (ea_cons (ev_eq (ev_cb (ea_cons (ev_var rfl) (ea_cons ev_cls ea_nil)) (cs_isEv (fun _ _ _ h => h) (.own _) (A.kit _ (isK_in h8)).1 ((A.kit _ (isK_in h8)).2 _ (Adr.mem_BadLot _)))) (isK_eq h8).symm) (ea_cons (ev_eq (ev_cb (ea_cons (ev_var rfl) (ea_cons ev_cls ea_nil)) (cs_isEv (fun _ _ _ h => h) (.own _) (A.kit _ (isK_in h10)).1 ((A.kit _ (isK_in h10)).2 _ (Adr.mem_BadFive _)))) (isK_eq h10).symm) (ea_cons (ev_eq (ev_cb (ea_cons (ev_var rfl) (ea_cons ev_cls ea_nil)) (cs_isEv (fun _ _ _ h => h) (.own _) (A.kit _ (isK_in h12)).1 ((A.kit _ (isK_in h12)).2 _ (Adr.mem_BadImage _)))) (isK_eq h12).symm) (ea_cons (ev_eq (ev_cb (ea_cons (ev_var rfl) (ea_cons ev_cls ea_nil)) (cs_isEv (fun _ _ _ h => h) (.own _) (A.kit _ (isK_in h14)).1 ((A.kit _ (isK_in h14)).2 _ (Adr.mem_BadNumber _)))) (isK_eq h14).symm) (ea_cons (ev_eq (ev_cb (ea_cons (ev_var rfl) (ea_cons ev_cls ea_nil)) (cs_isEv (fun _ _ _ h => h) (.own _) (A.kit _ (isK_in h16)).1 ((A.kit _ (isK_in h16)).2 _ (Adr.mem_BadEight _)))) (isK_eq h16).symm) (ea_cons (ev_eq (ev_cb (ea_cons (ev_var rfl) (ea_cons ev_cls ea_nil)) (cs_isEv (fun _ _ _ h => h) (.own _) (A.kit _ (isK_in h18)).1 ((A.kit _ (isK_in h18)).2 _ (Adr.mem_BadRows _)))) (isK_eq h18).symm) (ea_cons (ev_eq (ev_cb (ea_cons (ev_var rfl) (ea_cons ev_cls ea_nil)) (cs_isEv (fun _ _ _ h => h) (.own _) (A.kit _ (isK_in h20)).1 ((A.kit _ (isK_in h20)).2 _ (Adr.mem_BadSeven _)))) (isK_eq h20).symm) (ea_cons (ev_eq (ev_cb (ea_cons (ev_var rfl) (ea_cons ev_cls ea_nil)) (cs_isEv (fun _ _ _ h => h) (.own _) (A.kit _ (isK_in h22)).1 ((A.kit _ (isK_in h22)).2 _ (Adr.mem_BadMap _)))) (isK_eq h22).symm) (ea_cons (ev_eq (ev_cb (ea_cons (ev_var rfl) (ea_cons ev_cls ea_nil)) (cs_isEv (fun _ _ _ h => h) (.own _) (A.kit _ (isK_in h24)).1 ((A.kit _ (isK_in h24)).2 _ (Adr.mem_BadSigns _)))) (isK_eq h24).symm) (ea_cons (ev_eq (ev_cb (ea_cons (ev_var rfl) (ea_cons ev_cls ea_nil)) (cs_isEv (fun _ _ _ h => h) (.own _) (A.kit _ (isK_in h26)).1 ((A.kit _ (isK_in h26)).2 _ (Adr.mem_BadNumbers _)))) (isK_eq h26).symm) (ea_cons (ev_eq (ev_cb (ea_cons (ev_var rfl) (ea_cons ev_cls ea_nil)) (cs_isEv (fun _ _ _ h => h) (.own _) (A.kit _ (isK_in h28)).1 ((A.kit _ (isK_in h28)).2 _ (Adr.mem_BadQuestion _)))) (isK_eq h28).symm) (ea_cons (ev_eq (ev_cb (ea_cons (ev_var rfl) (ea_cons ev_cls ea_nil)) (cs_isEv (fun _ _ _ h => h) (.own _) (A.kit _ (isK_in h30)).1 ((A.kit _ (isK_in h30)).2 _ (Adr.mem_BadHalf _)))) (isK_eq h30).symm) (ea_cons (ev_eq (ev_cb (ea_cons (ev_var rfl) (ea_cons ev_cls ea_nil)) (cs_isEv (fun _ _ _ h => h) (.own _) (A.kit _ (isK_in h32)).1 ((A.kit _ (isK_in h32)).2 _ (Adr.mem_BadFour _)))) (isK_eq h32).symm) (ea_cons (ev_eq (ev_cb (ea_cons (ev_var rfl) (ea_cons ev_cls ea_nil)) (cs_isEv (fun _ _ _ h => h) (.own _) (A.kit _ (isK_in h34)).1 ((A.kit _ (isK_in h34)).2 _ (Adr.mem_BadSextet _)))) (isK_eq h34).symm) (ea_cons (ev_eq (ev_cb (ea_cons (ev_var rfl) (ea_cons ev_cls ea_nil)) (cs_isEv (fun _ _ _ h => h) (.own _) (A.kit _ (isK_in h36)).1 ((A.kit _ (isK_in h36)).2 _ (Adr.mem_BadKind _)))) (isK_eq h36).symm) (ea_cons (ev_eq (ev_cb (ea_cons (ev_var rfl) (ea_cons ev_cls ea_nil)) (cs_isEv (fun _ _ _ h => h) (.own _) (A.kit _ (isK_in h38)).1 ((A.kit _ (isK_in h38)).2 _ (Adr.mem_NotApart _)))) (isK_eq h38).symm) (ea_cons (ev_eq (ev_cb (ea_cons (ev_var rfl) (ea_cons ev_cls ea_nil)) (cs_isEv (fun _ _ _ h => h) (.own _) (A.kit _ (isK_in h40)).1 ((A.kit _ (isK_in h40)).2 _ (Adr.mem_BadTrio _)))) (isK_eq h40).symm) (ea_cons (ev_eq (ev_cb (ea_cons (ev_var rfl) (ea_cons ev_cls ea_nil)) (cs_isEv (fun _ _ _ h => h) (.own _) (A.kit _ (isK_in h42)).1 ((A.kit _ (isK_in h42)).2 _ (Adr.mem_BadTwelve _)))) (isK_eq h42).symm) (ea_cons (ev_eq (ev_cb (ea_cons (ev_var rfl) (ea_cons ev_cls ea_nil)) (cs_isEv (fun _ _ _ h => h) (.own _) (A.kit _ (isK_in h44)).1 ((A.kit _ (isK_in h44)).2 _ (Adr.mem_BadSix _)))) (isK_eq h44).symm) (ea_cons (ev_eq (ev_cb (ea_cons (ev_var rfl) (ea_cons ev_cls ea_nil)) (cs_isEv (fun _ _ _ h => h) (.own _) (A.kit _ (isK_in h46)).1 ((A.kit _ (isK_in h46)).2 _ (Adr.mem_BadLine _)))) (isK_eq h46).symm) (ea_cons (ev_eq (ev_cb (ea_cons (ev_var rfl) (ea_cons ev_cls ea_nil)) (cs_isEv (fun _ _ _ h => h) (.own _) (A.kit _ (isK_in h48)).1 ((A.kit _ (isK_in h48)).2 _ (Adr.mem_BadSixes _)))) (isK_eq h48).symm) (ea_cons (ev_eq (ev_cb (ea_cons (ev_var rfl) (ea_cons ev_cls ea_nil)) (cs_isEv (fun _ _ _ h => h) (.own _) (A.kit _ (isK_in h50)).1 ((A.kit _ (isK_in h50)).2 _ (Adr.mem_BadRow _)))) (isK_eq h50).symm) (ea_cons (ev_eq (ev_cb (ea_cons (ev_var rfl) (ea_cons ev_cls ea_nil)) (cs_isEv (fun _ _ _ h => h) (.own _) (A.kit _ (isK_in h52)).1 ((A.kit _ (isK_in h52)).2 _ (Adr.mem_BadMarking _)))) (isK_eq h52).symm) (ea_cons (ev_eq (ev_cb (ea_cons (ev_var rfl) (ea_cons ev_cls ea_nil)) (cs_isEv (fun _ _ _ h => h) (.own _) (A.kit _ (isK_in h54)).1 ((A.kit _ (isK_in h54)).2 _ (Adr.mem_BadMarks _)))) (isK_eq h54).symm) (ea_cons (ev_eq (ev_cb (ea_cons (ev_var rfl) (ea_cons ev_cls ea_nil)) (cs_isEv (fun _ _ _ h => h) (.own _) (A.kit _ (isK_in h56)).1 ((A.kit _ (isK_in h56)).2 _ (Adr.mem_BadStand _)))) (isK_eq h56).symm) (ea_cons (ev_eq (ev_cb (ea_cons (ev_var rfl) (ea_cons ev_cls ea_nil)) (cs_isEv (fun _ _ _ h => h) (.own _) (A.kit _ (isK_in h58)).1 ((A.kit _ (isK_in h58)).2 _ (Adr.mem_BadLabels _)))) (isK_eq h58).symm) (ea_cons (ev_eq (ev_cb (ea_cons (ev_var rfl) (ea_cons ev_cls ea_nil)) (cs_isEv (fun _ _ _ h => h) (.own _) (A.kit _ (isK_in h60)).1 ((A.kit _ (isK_in h60)).2 _ (Adr.mem_BadHexa _)))) (isK_eq h60).symm) (ea_cons (ev_eq (ev_cb (ea_cons (ev_var rfl) (ea_cons ev_cls ea_nil)) (cs_isEv (fun _ _ _ h => h) (.own _) (A.kit _ (isK_in h62)).1 ((A.kit _ (isK_in h62)).2 _ (Adr.mem_BadNode _)))) (isK_eq h62).symm) (ea_cons (ev_eq (ev_cb (ea_cons (ev_var rfl) (ea_cons ev_cls ea_nil)) (cs_isEv (fun _ _ _ h => h) (.own _) (A.kit _ (isK_in h64)).1 ((A.kit _ (isK_in h64)).2 _ (Adr.mem_BadSignRows _)))) (isK_eq h64).symm) (ea_cons (ev_eq (ev_cb (ea_cons (ev_var rfl) (ea_cons ev_cls ea_nil)) (cs_isEv (fun _ _ _ h => h) (.own _) (A.kit _ (isK_in h66)).1 ((A.kit _ (isK_in h66)).2 _ (Adr.mem_BadPart _)))) (isK_eq h66).symm) (ea_cons (ev_eq (ev_cb (ea_cons (ev_var rfl) (ea_cons ev_cls ea_nil)) (cs_isEv (fun _ _ _ h => h) (.own _) (A.kit _ (isK_in h68)).1 ((A.kit _ (isK_in h68)).2 _ (Adr.mem_BadRing _)))) (isK_eq h68).symm) (ea_cons (ev_eq (ev_cb (ea_cons (ev_var rfl) (ea_cons ev_cls ea_nil)) (cs_isEv (fun _ _ _ h => h) (.own _) (A.kit _ (isK_in h70)).1 ((A.kit _ (isK_in h70)).2 _ (Adr.mem_BadPlaces _)))) (isK_eq h70).symm) (ea_cons (ev_eq (ev_cb (ea_cons (ev_var rfl) (ea_cons ev_cls ea_nil)) (cs_isEv (fun _ _ _ h => h) (.own _) (A.kit _ (isK_in h72)).1 ((A.kit _ (isK_in h72)).2 _ (Adr.mem_BadTrust _)))) (isK_eq h72).symm) (ea_cons (ev_eq (ev_cb (ea_cons (ev_var rfl) (ea_cons ev_cls ea_nil)) (cs_isEv (fun _ _ _ h => h) (.own _) (A.kit _ (isK_in h74)).1 ((A.kit _ (isK_in h74)).2 _ (Adr.mem_BadWords _)))) (isK_eq h74).symm) (ea_cons (ev_eq (ev_cb (ea_cons (ev_var rfl) (ea_cons ev_cls ea_nil)) (cs_isEv (fun _ _ _ h => h) (.own _) (A.kit _ (isK_in h76)).1 ((A.kit _ (isK_in h76)).2 _ (Adr.mem_BadShape _)))) (isK_eq h76).symm) (ea_cons (ev_eq (ev_cb (ea_cons (ev_var rfl) (ea_cons ev_cls ea_nil)) (cs_isEv (fun _ _ _ h => h) (.own _) (A.kit _ (isK_in h78)).1 ((A.kit _ (isK_in h78)).2 _ (Adr.mem_Within _)))) (isK_eq h78).symm) (ea_cons (ev_eq (ev_cb (ea_cons (ev_var rfl) (ea_cons ev_cls ea_nil)) (cs_isEv (fun _ _ _ h => h) (.own _) (A.kit _ (isK_in h80)).1 ((A.kit _ (isK_in h80)).2 _ (Adr.mem_Without _)))) (isK_eq h80).symm) (ea_cons (ev_eq (ev_cb (ea_cons (ev_var rfl) (ea_cons ev_cls ea_nil)) (cs_isEv (fun _ _ _ h => h) (.own _) (A.kit _ (isK_in h82)).1 ((A.kit _ (isK_in h82)).2 _ (Adr.mem_BadStep _)))) (isK_eq h82).symm) (ea_cons (ev_eq (ev_cb (ea_cons (ev_var rfl) (ea_cons ev_cls ea_nil)) (cs_isEv (fun _ _ _ h => h) (.own _) (A.kit _ (isK_in h84)).1 ((A.kit _ (isK_in h84)).2 _ (Adr.mem_BadSteps _)))) (isK_eq h84).symm) (ea_cons (ev_eq (ev_cb (ea_cons (ev_var rfl) (ea_cons ev_cls ea_nil)) (cs_isEv (fun _ _ _ h => h) (.own _) (A.kit _ (isK_in h86)).1 ((A.kit _ (isK_in h86)).2 _ (Adr.mem_Refused _)))) (isK_eq h86).symm) (ea_cons (ev_eq (ev_cb (ea_cons (ev_var rfl) (ea_cons ev_cls ea_nil)) (cs_isEv (fun _ _ _ h => h) (.own _) (A.kit _ (isK_in h88)).1 ((A.kit _ (isK_in h88)).2 _ (Adr.mem_BadJournal _)))) (isK_eq h88).symm) (ea_cons (ev_eq (ev_cb (ea_cons (ev_var rfl) (ea_cons ev_cls ea_nil)) (cs_isEv (fun _ _ _ h => h) (.own _) (A.kit _ (isK_in h90)).1 ((A.kit _ (isK_in h90)).2 _ (Adr.mem_BadNumbering _)))) (isK_eq h90).symm) (ea_cons (ev_eq (ev_cb (ea_cons (ev_var rfl) (ea_cons ev_cls ea_nil)) (cs_isEv (fun _ _ _ h => h) (.own _) (A.kit _ (isK_in h92)).1 ((A.kit _ (isK_in h92)).2 _ (Adr.mem_BadVector _)))) (isK_eq h92).symm) (ea_cons (ev_eq (ev_cb (ea_cons (ev_var rfl) (ea_cons ev_cls ea_nil)) (cs_isEv (fun _ _ _ h => h) (.own _) (A.kit _ (isK_in h94)).1 ((A.kit _ (isK_in h94)).2 _ (Adr.mem_NoVector _)))) (isK_eq h94).symm) (ea_cons (ev_eq (ev_cb (ea_cons (ev_var rfl) (ea_cons ev_cls ea_nil)) (cs_isEv (fun _ _ _ h => h) (.own _) (A.kit _ (isK_in h96)).1 ((A.kit _ (isK_in h96)).2 _ (Adr.mem_TooGreat _)))) (isK_eq h96).symm) (ea_cons (ev_eq (ev_cb (ea_cons (ev_var rfl) (ea_cons ev_cls ea_nil)) (cs_isEv (fun _ _ _ h => h) (.own _) (A.kit _ (isK_in h98)).1 ((A.kit _ (isK_in h98)).2 _ (Adr.mem_BadText _)))) (isK_eq h98).symm) (ea_cons (ev_eq (ev_cb (ea_cons (ev_var rfl) (ea_cons ev_cls ea_nil)) (cs_isEv (fun _ _ _ h => h) (.own _) (A.kit _ (isK_in h100)).1 ((A.kit _ (isK_in h100)).2 _ (Adr.mem_NothingDone _)))) (isK_eq h100).symm) (ea_cons (ev_eq (ev_cb (ea_cons (ev_var rfl) (ea_cons ev_cls ea_nil)) (cs_isEv (fun _ _ _ h => h) (.own _) (A.kit _ (isK_in h102)).1 ((A.kit _ (isK_in h102)).2 _ (Adr.mem_NothingUndone _)))) (isK_eq h102).symm) ea_nil))))))))))))))))))))))))))))))))))))))))))))))))))) (szn (by show 51 ≤ 1000; decide))) (.slnil) rfl
end K00
set_option Elab.async false
set_option linter.all false
set_option maxRecDepth 100000
set_option maxHeartbeats 4000000
set_option autoImplicit false
namespace K00
open PySem PySem.Spec PyProof.Rows L2 T
open PySem.W (Frag)
variable {P : Program} {w : World} {K : PySem.W.Frag} {mg : Str → Option Value} {base : Heap}
theorem w__law_e_first (A : Facts P K mg base) : FnOk P w K mg base CX0 (1 + 1) A.f__law_e_first A.fd__law_e_first ["x"] (SpN (S__law_e_first (ZZ := A.ZZ) A.P__law_e_first) K) := by
  refine A.F__law_e_first.okC sc__law_e_first (len_n (fun args C r C' h => by obtain ⟨_, _, rfl, _⟩ := h; rfl)) (fun cdv AA outer s H vs Q E hcd0 hr h => ?_)
  have nd := sc__law_e_first.nd
  obtain rfl : cdv = .ref A.c__law_e_first := Option.some.inj (hcd0.symm.trans A.cd__law_e_first)
  have hr1 : Room 1 _ := hr.mono (by decide)
  refine ⟨_, (pss_cons (ps_set (i := 1) nd rfl (by first | exact .inl rfl | exact .inr rfl) (pe_lst pa_nil))
      (pss_cons (ps_expr (pe_bm PySem.F.plainAttrs_list PySem.F.slot_list_append PySem.F.type_list_append mt_append (pv 1) (pa_cons (pe_tup (pa_cons (pe_err A.E_BadNames hr1 (pa_cons (pv 0) pa_nil) (by rfl)) (pa_cons (pe_errKw A.E_BadNames hr1 (pk_cons (pv 0) pk_nil) (by rfl) (fun _ _ _ _ _ _ _ _ _ _ _ _ => rfl)) (pa_cons (LamX.pe_look (c := A.c__law_e_first) (P := A.P__law_e_first) (q := "_law_e_first.<locals>.<lambda>") (vn := "e") (fld := "names") A.TB__law_e_first rfl rfl) (pa_cons (pe_lst (pa_cons (pv 0) pa_nil)) pa_nil))))) pa_nil)))
      (pss_cons (ps_expr (pe_bm PySem.F.plainAttrs_list PySem.F.slot_list_append PySem.F.type_list_append mt_append (pv 1) (pa_cons (pe_tup (pa_cons (pe_err A.E_BadEights hr1 (pa_cons (pv 0) pa_nil) (by rfl)) (pa_cons (pe_errKw A.E_BadEights hr1 (pk_cons (pv 0) pk_nil) (by rfl) (fun _ _ _ _ _ _ _ _ _ _ _ _ => rfl)) (pa_cons (LamX.pe_look (c := A.c__law_e_first) (P := A.P__law_e_first) (q := "_law_e_first.<locals>.<lambda>") (vn := "e") (fld := "eights") A.TB__law_e_first rfl rfl) (pa_cons (pe_lst (pa_cons (pv 0) pa_nil)) pa_nil))))) pa_nil)))
      (pss_cons (ps_expr (pe_bm PySem.F.plainAttrs_list PySem.F.slot_list_append PySem.F.type_list_append mt_append (pv 1) (pa_cons (pe_tup (pa_cons (pe_err A.E_NoName hr1 (pa_cons (pv 0) pa_nil) (by rfl)) (pa_cons (pe_errKw A.E_NoName hr1 (pk_cons (pv 0) pk_nil) (by rfl) (fun _ _ _ _ _ _ _ _ _ _ _ _ => rfl)) (pa_cons (LamX.pe_look (c := A.c__law_e_first) (P := A.P__law_e_first) (q := "_law_e_first.<locals>.<lambda>") (vn := "e") (fld := "name") A.TB__law_e_first rfl rfl) (pa_cons (pe_lst (pa_cons (pv 0) pa_nil)) pa_nil))))) pa_nil)))
      (pss_cons (ps_expr (pe_bm PySem.F.plainAttrs_list PySem.F.slot_list_append PySem.F.type_list_append mt_append (pv 1) (pa_cons (pe_tup (pa_cons (pe_err A.E_BadLot hr1 (pa_cons (pv 0) pa_nil) (by rfl)) (pa_cons (pe_errKw A.E_BadLot hr1 (pk_cons (pv 0) pk_nil) (by rfl) (fun _ _ _ _ _ _ _ _ _ _ _ _ => rfl)) (pa_cons (LamX.pe_look (c := A.c__law_e_first) (P := A.P__law_e_first) (q := "_law_e_first.<locals>.<lambda>") (vn := "e") (fld := "lot") A.TB__law_e_first rfl rfl) (pa_cons (pe_lst (pa_cons (pv 0) pa_nil)) pa_nil))))) pa_nil)))
      (pss_cons (ps_expr (pe_bm PySem.F.plainAttrs_list PySem.F.slot_list_append PySem.F.type_list_append mt_append (pv 1) (pa_cons (pe_tup (pa_cons (pe_err A.E_BadFive hr1 (pa_cons (pv 0) pa_nil) (by rfl)) (pa_cons (pe_errKw A.E_BadFive hr1 (pk_cons (pv 0) pk_nil) (by rfl) (fun _ _ _ _ _ _ _ _ _ _ _ _ => rfl)) (pa_cons (LamX.pe_look (c := A.c__law_e_first) (P := A.P__law_e_first) (q := "_law_e_first.<locals>.<lambda>") (vn := "e") (fld := "five") A.TB__law_e_first rfl rfl) (pa_cons (pe_lst (pa_cons (pv 0) pa_nil)) pa_nil))))) pa_nil)))
      (pss_cons (ps_expr (pe_bm PySem.F.plainAttrs_list PySem.F.slot_list_append PySem.F.type_list_append mt_append (pv 1) (pa_cons (pe_tup (pa_cons (pe_err A.E_BadImage hr1 (pa_cons (pv 0) pa_nil) (by rfl)) (pa_cons (pe_errKw A.E_BadImage hr1 (pk_cons (pv 0) pk_nil) (by rfl) (fun _ _ _ _ _ _ _ _ _ _ _ _ => rfl)) (pa_cons (LamX.pe_look (c := A.c__law_e_first) (P := A.P__law_e_first) (q := "_law_e_first.<locals>.<lambda>") (vn := "e") (fld := "image") A.TB__law_e_first rfl rfl) (pa_cons (pe_lst (pa_cons (pv 0) pa_nil)) pa_nil))))) pa_nil)))
      (pss_cons (ps_expr (pe_bm PySem.F.plainAttrs_list PySem.F.slot_list_append PySem.F.type_list_append mt_append (pv 1) (pa_cons (pe_tup (pa_cons (pe_err A.E_BadNumber hr1 (pa_cons (pv 0) pa_nil) (by rfl)) (pa_cons (pe_errKw A.E_BadNumber hr1 (pk_cons (pv 0) pk_nil) (by rfl) (fun _ _ _ _ _ _ _ _ _ _ _ _ => rfl)) (pa_cons (LamX.pe_look (c := A.c__law_e_first) (P := A.P__law_e_first) (q := "_law_e_first.<locals>.<lambda>") (vn := "e") (fld := "number") A.TB__law_e_first rfl rfl) (pa_cons (pe_lst (pa_cons (pv 0) pa_nil)) pa_nil))))) pa_nil)))
      (pss_cons (ps_expr (pe_bm PySem.F.plainAttrs_list PySem.F.slot_list_append PySem.F.type_list_append mt_append (pv 1) (pa_cons (pe_tup (pa_cons (pe_err A.E_BadEight hr1 (pa_cons (pv 0) pa_nil) (by rfl)) (pa_cons (pe_errKw A.E_BadEight hr1 (pk_cons (pv 0) pk_nil) (by rfl) (fun _ _ _ _ _ _ _ _ _ _ _ _ => rfl)) (pa_cons (LamX.pe_look (c := A.c__law_e_first) (P := A.P__law_e_first) (q := "_law_e_first.<locals>.<lambda>") (vn := "e") (fld := "eight") A.TB__law_e_first rfl rfl) (pa_cons (pe_lst (pa_cons (pv 0) pa_nil)) pa_nil))))) pa_nil)))
      (pss_cons (ps_expr (pe_bm PySem.F.plainAttrs_list PySem.F.slot_list_append PySem.F.type_list_append mt_append (pv 1) (pa_cons (pe_tup (pa_cons (pe_err A.E_BadRows hr1 (pa_cons (pv 0) pa_nil) (by rfl)) (pa_cons (pe_errKw A.E_BadRows hr1 (pk_cons (pv 0) pk_nil) (by rfl) (fun _ _ _ _ _ _ _ _ _ _ _ _ => rfl)) (pa_cons (LamX.pe_look (c := A.c__law_e_first) (P := A.P__law_e_first) (q := "_law_e_first.<locals>.<lambda>") (vn := "e") (fld := "rows") A.TB__law_e_first rfl rfl) (pa_cons (pe_lst (pa_cons (pv 0) pa_nil)) pa_nil))))) pa_nil)))
      (pss_cons (ps_expr (pe_bm PySem.F.plainAttrs_list PySem.F.slot_list_append PySem.F.type_list_append mt_append (pv 1) (pa_cons (pe_tup (pa_cons (pe_err A.E_BadSeven hr1 (pa_cons (pv 0) pa_nil) (by rfl)) (pa_cons (pe_errKw A.E_BadSeven hr1 (pk_cons (pv 0) pk_nil) (by rfl) (fun _ _ _ _ _ _ _ _ _ _ _ _ => rfl)) (pa_cons (LamX.pe_look (c := A.c__law_e_first) (P := A.P__law_e_first) (q := "_law_e_first.<locals>.<lambda>") (vn := "e") (fld := "seven") A.TB__law_e_first rfl rfl) (pa_cons (pe_lst (pa_cons (pv 0) pa_nil)) pa_nil))))) pa_nil)))
      (pss_cons (ps_expr (pe_bm PySem.F.plainAttrs_list PySem.F.slot_list_append PySem.F.type_list_append mt_append (pv 1) (pa_cons (pe_tup (pa_cons (pe_err A.E_BadMap hr1 (pa_cons (pv 0) pa_nil) (by rfl)) (pa_cons (pe_errKw A.E_BadMap hr1 (pk_cons (pv 0) pk_nil) (by rfl) (fun _ _ _ _ _ _ _ _ _ _ _ _ => rfl)) (pa_cons (LamX.pe_look (c := A.c__law_e_first) (P := A.P__law_e_first) (q := "_law_e_first.<locals>.<lambda>") (vn := "e") (fld := "own_map") A.TB__law_e_first rfl rfl) (pa_cons (pe_lst (pa_cons (pv 0) pa_nil)) pa_nil))))) pa_nil)))
      (pss_cons (ps_expr (pe_bm PySem.F.plainAttrs_list PySem.F.slot_list_append PySem.F.type_list_append mt_append (pv 1) (pa_cons (pe_tup (pa_cons (pe_err A.E_BadSigns hr1 (pa_cons (pv 0) pa_nil) (by rfl)) (pa_cons (pe_errKw A.E_BadSigns hr1 (pk_cons (pv 0) pk_nil) (by rfl) (fun _ _ _ _ _ _ _ _ _ _ _ _ => rfl)) (pa_cons (LamX.pe_look (c := A.c__law_e_first) (P := A.P__law_e_first) (q := "_law_e_first.<locals>.<lambda>") (vn := "e") (fld := "signs") A.TB__law_e_first rfl rfl) (pa_cons (pe_lst (pa_cons (pv 0) pa_nil)) pa_nil))))) pa_nil)))
      (pss_cons (ps_expr (pe_bm PySem.F.plainAttrs_list PySem.F.slot_list_append PySem.F.type_list_append mt_append (pv 1) (pa_cons (pe_tup (pa_cons (pe_err A.E_BadNumbers hr1 (pa_cons (pv 0) pa_nil) (by rfl)) (pa_cons (pe_errKw A.E_BadNumbers hr1 (pk_cons (pv 0) pk_nil) (by rfl) (fun _ _ _ _ _ _ _ _ _ _ _ _ => rfl)) (pa_cons (LamX.pe_look (c := A.c__law_e_first) (P := A.P__law_e_first) (q := "_law_e_first.<locals>.<lambda>") (vn := "e") (fld := "numbers") A.TB__law_e_first rfl rfl) (pa_cons (pe_lst (pa_cons (pv 0) pa_nil)) pa_nil))))) pa_nil)))
      (pss_cons (ps_expr (pe_bm PySem.F.plainAttrs_list PySem.F.slot_list_append PySem.F.type_list_append mt_append (pv 1) (pa_cons (pe_tup (pa_cons (pe_err A.E_BadQuestion hr1 (pa_cons (pv 0) pa_nil) (by rfl)) (pa_cons (pe_errKw A.E_BadQuestion hr1 (pk_cons (pv 0) pk_nil) (by rfl) (fun _ _ _ _ _ _ _ _ _ _ _ _ => rfl)) (pa_cons (LamX.pe_look (c := A.c__law_e_first) (P := A.P__law_e_first) (q := "_law_e_first.<locals>.<lambda>") (vn := "e") (fld := "question") A.TB__law_e_first rfl rfl) (pa_cons (pe_lst (pa_cons (pv 0) pa_nil)) pa_nil))))) pa_nil)))
      (pss_cons (ps_expr (pe_bm PySem.F.plainAttrs_list PySem.F.slot_list_append PySem.F.type_list_append mt_append (pv 1) (pa_cons (pe_tup (pa_cons (pe_err A.E_BadHalf hr1 (pa_cons (pv 0) pa_nil) (by rfl)) (pa_cons (pe_errKw A.E_BadHalf hr1 (pk_cons (pv 0) pk_nil) (by rfl) (fun _ _ _ _ _ _ _ _ _ _ _ _ => rfl)) (pa_cons (LamX.pe_look (c := A.c__law_e_first) (P := A.P__law_e_first) (q := "_law_e_first.<locals>.<lambda>") (vn := "e") (fld := "half") A.TB__law_e_first rfl rfl) (pa_cons (pe_lst (pa_cons (pv 0) pa_nil)) pa_nil))))) pa_nil)))
      (pss_cons (ps_expr (pe_bm PySem.F.plainAttrs_list PySem.F.slot_list_append PySem.F.type_list_append mt_append (pv 1) (pa_cons (pe_tup (pa_cons (pe_err A.E_BadFour hr1 (pa_cons (pv 0) pa_nil) (by rfl)) (pa_cons (pe_errKw A.E_BadFour hr1 (pk_cons (pv 0) pk_nil) (by rfl) (fun _ _ _ _ _ _ _ _ _ _ _ _ => rfl)) (pa_cons (LamX.pe_look (c := A.c__law_e_first) (P := A.P__law_e_first) (q := "_law_e_first.<locals>.<lambda>") (vn := "e") (fld := "four") A.TB__law_e_first rfl rfl) (pa_cons (pe_lst (pa_cons (pv 0) pa_nil)) pa_nil))))) pa_nil)))
      (pss_one (ps_ret (pv 1)))))))))))))))))))), ?_⟩
  refine body_n h fun B args C r C' hK hP hS => ?_
  obtain ⟨v_x, res, rfl, rfl, g0, rfl, rfl⟩ := hS
  subst hK
  refine ss_setN (evn_lst (xs := ([] : List T.Row)) ea_nil (szn (by show 0 ≤ 1000; decide))) fun p1 hp_p1 => ?_
  obtain ⟨x2, h3, g4⟩ := bind_some g0
  refine ss_drop (ev_appO (k := 0) (ev_var rfl) (ea_cons (ev_row (ea_cons (ev_err (ea_cons (ev_var rfl) ea_nil)) (ea_cons (ev_err (ea_cons (ev_var rfl) ea_nil)) (ea_cons (ev_look (k := 1) rfl) (ea_cons (ev_of (evn_lst (xs := ([v_x] : List (Vid D))) (ea_cons (ev_var rfl) ea_nil) (szn (by show 1 ≤ 1000; decide)))) ea_nil))))) ea_nil) rfl rfl h3) ?_
  obtain ⟨x5, h6, g7⟩ := bind_some g4
  refine ss_drop (ev_appO (k := 0) (ev_var rfl) (ea_cons (ev_row (ea_cons (ev_err (ea_cons (ev_var rfl) ea_nil)) (ea_cons (ev_err (ea_cons (ev_var rfl) ea_nil)) (ea_cons (ev_look (k := 1) rfl) (ea_cons (ev_of (evn_lst (xs := ([v_x] : List (Vid D))) (ea_cons (ev_var rfl) ea_nil) (szn (by show 1 ≤ 1000; decide)))) ea_nil))))) ea_nil) rfl rfl h6) ?_
  obtain ⟨x8, h9, g10⟩ := bind_some g7
  refine ss_drop (ev_appO (k := 0) (ev_var rfl) (ea_cons (ev_row (ea_cons (ev_err (ea_cons (ev_var rfl) ea_nil)) (ea_cons (ev_err (ea_cons (ev_var rfl) ea_nil)) (ea_cons (ev_look (k := 1) rfl) (ea_cons (ev_of (evn_lst (xs := ([v_x] : List (Vid D))) (ea_cons (ev_var rfl) ea_nil) (szn (by show 1 ≤ 1000; decide)))) ea_nil))))) ea_nil) rfl rfl h9) ?_
  obtain ⟨x11, h12, g13⟩ := bind_some g10
  refine ss_drop (ev_appO (k := 0) (ev_var rfl) (ea_cons (ev_row (ea_cons (ev_err (ea_cons (ev_var rfl) ea_nil)) (ea_cons (ev_err (ea_cons (ev_var rfl) ea_nil)) (ea_cons (ev_look (k := 1) rfl) (ea_cons (ev_of (evn_lst (xs := ([v_x] : List (Vid D))) (ea_cons (ev_var rfl) ea_nil) (szn (by show 1 ≤ 1000; decide)))) ea_nil))))) ea_nil) rfl rfl h12) ?_
  obtain ⟨x14, h15, g16⟩ := bind_some g13
  refine ss_drop (ev_appO (k := 0) (ev_var rfl) (ea_cons (ev_row (ea_cons (ev_err (ea_cons (ev_var rfl) ea_nil)) (ea_cons (ev_err (ea_cons (ev_var rfl) ea_nil)) (ea_cons (ev_look (k := 1) rfl) (ea_cons (ev_of (evn_lst (xs := ([v_x] : List (Vid D))) (ea_cons (ev_var rfl) ea_nil) (szn (by show 1 ≤ 1000; decide)))) ea_nil))))) ea_nil) rfl rfl h15) ?_
  obtain ⟨x17, h18, g19⟩ := bind_some g16
  refine ss_drop (ev_appO (k := 0) (ev_var rfl) (ea_cons (ev_row (ea_cons (ev_err (ea_cons (ev_var rfl) ea_nil)) (ea_cons (ev_err (ea_cons (ev_var rfl) ea_nil)) (ea_cons (ev_look (k := 1) rfl) (ea_cons (ev_of (evn_lst (xs := ([v_x] : List (Vid D))) (ea_cons (ev_var rfl) ea_nil) (szn (by show 1 ≤ 1000; decide)))) ea_nil))))) ea_nil) rfl rfl h18) ?_
  obtain ⟨x20, h21, g22⟩ := bind_some g19
  refine ss_drop (ev_appO (k := 0) (ev_var rfl) (ea_cons (ev_row (ea_cons (ev_err (ea_cons (ev_var rfl) ea_nil)) (ea_cons (ev_err (ea_cons (ev_var rfl) ea_nil)) (ea_cons (ev_look (k := 1) rfl) (ea_cons (ev_of (evn_lst (xs := ([v_x] : List (Vid D))) (ea_cons (ev_var rfl) ea_nil) (szn (by show 1 ≤ 1000; decide)))) ea_nil))))) ea_nil) rfl rfl h21) ?_
  obtain ⟨x23, h24, g25⟩ := bind_some g22
  refine ss_drop (ev_appO (k := 0) (ev_var rfl) (ea_cons (ev_row (ea_cons (ev_err (ea_cons (ev_var rfl) ea_nil)) (ea_cons (ev_err (ea_cons (ev_var rfl) ea_nil)) (ea_cons (ev_look (k := 1) rfl) (ea_cons (ev_of (evn_lst (xs := ([v_x] : List (Vid D))) (ea_cons (ev_var rfl) ea_nil) (szn (by show 1 ≤ 1000; decide)))) ea_nil))))) ea_nil) rfl rfl h24) ?_
  obtain ⟨x26, h27, g28⟩ := bind_some g25
  refine ss_drop (ev_appO (k := 0) (ev_var rfl) (ea_cons (ev_row (ea_cons (ev_err (ea_cons (ev_var rfl) ea_nil)) (ea_cons (ev_err (ea_cons (ev_var rfl) ea_nil)) (ea_cons (ev_look (k := 1) rfl) (ea_cons (ev_of (evn_lst (xs := ([v_x] : List (Vid D))) (ea_cons (ev_var rfl) ea_nil) (szn (by show 1 ≤ 1000; decide)))) ea_nil))))) ea_nil) rfl rfl h27) ?_
  obtain ⟨x29, h30, g31⟩ := bind_some g28
  refine ss_drop (ev_appO (k := 0) (ev_var rfl) (ea_cons (ev_row (ea_cons (ev_err (ea_cons (ev_var rfl) ea_nil)) (ea_cons (ev_err (ea_cons (ev_var rfl) ea_nil)) (ea_cons (ev_look (k := 1) rfl) (ea_cons (ev_of (evn_lst (xs := ([v_x] : List (Vid D))) (ea_cons (ev_var rfl) ea_nil) (szn (by show 1 ≤ 1000; decide)))) ea_nil))))) ea_nil) rfl rfl h30) ?_
  obtain ⟨x32, h33, g34⟩ := bind_some g31
  refine ss_drop (ev_appO (k := 0) (ev_var rfl) (ea_cons (ev_row (ea_cons (ev_err (ea_cons (ev_var rfl) ea_nil)) (ea_cons (ev_err (ea_cons (ev_var rfl) ea_nil)) (ea_cons (ev_look (k := 1) rfl) (ea_cons (ev_of (evn_lst (xs := ([v_x] : List (Vid D))) (ea_cons (ev_var rfl) ea_nil) (szn (by show 1 ≤ 1000; decide)))) ea_nil))))) ea_nil) rfl rfl h33) ?_
  obtain ⟨x35, h36, g37⟩ := bind_some g34
  refine ss_drop (ev_appO (k := 0) (ev_var rfl) (ea_cons (ev_row (ea_cons (ev_err (ea_cons (ev_var rfl) ea_nil)) (ea_cons (ev_err (ea_cons (ev_var rfl) ea_nil)) (ea_cons (ev_look (k := 1) rfl) (ea_cons (ev_of (evn_lst (xs := ([v_x] : List (Vid D))) (ea_cons (ev_var rfl) ea_nil) (szn (by show 1 ≤ 1000; decide)))) ea_nil))))) ea_nil) rfl rfl h36) ?_
  obtain ⟨x38, h39, g40⟩ := bind_some g37
  refine ss_drop (ev_appO (k := 0) (ev_var rfl) (ea_cons (ev_row (ea_cons (ev_err (ea_cons (ev_var rfl) ea_nil)) (ea_cons (ev_err (ea_cons (ev_var rfl) ea_nil)) (ea_cons (ev_look (k := 1) rfl) (ea_cons (ev_of (evn_lst (xs := ([v_x] : List (Vid D))) (ea_cons (ev_var rfl) ea_nil) (szn (by show 1 ≤ 1000; decide)))) ea_nil))))) ea_nil) rfl rfl h39) ?_
  obtain ⟨x41, h42, g43⟩ := bind_some g40
  refine ss_drop (ev_appO (k := 0) (ev_var rfl) (ea_cons (ev_row (ea_cons (ev_err (ea_cons (ev_var rfl) ea_nil)) (ea_cons (ev_err (ea_cons (ev_var rfl) ea_nil)) (ea_cons (ev_look (k := 1) rfl) (ea_cons (ev_of (evn_lst (xs := ([v_x] : List (Vid D))) (ea_cons (ev_var rfl) ea_nil) (szn (by show 1 ≤ 1000; decide)))) ea_nil))))) ea_nil) rfl rfl h42) ?_
  obtain ⟨x44, h45, g46⟩ := bind_some g43
  refine ss_drop (ev_appO (k := 0) (ev_var rfl) (ea_cons (ev_row (ea_cons (ev_err (ea_cons (ev_var rfl) ea_nil)) (ea_cons (ev_err (ea_cons (ev_var rfl) ea_nil)) (ea_cons (ev_look (k := 1) rfl) (ea_cons (ev_of (evn_lst (xs := ([v_x] : List (Vid D))) (ea_cons (ev_var rfl) ea_nil) (szn (by show 1 ≤ 1000; decide)))) ea_nil))))) ea_nil) rfl rfl h45) ?_
  obtain ⟨x47, h48, g49⟩ := bind_some g46
  refine ss_drop (ev_appO (k := 0) (ev_var rfl) (ea_cons (ev_row (ea_cons (ev_err (ea_cons (ev_var rfl) ea_nil)) (ea_cons (ev_err (ea_cons (ev_var rfl) ea_nil)) (ea_cons (ev_look (k := 1) rfl) (ea_cons (ev_of (evn_lst (xs := ([v_x] : List (Vid D))) (ea_cons (ev_var rfl) ea_nil) (szn (by show 1 ≤ 1000; decide)))) ea_nil))))) ea_nil) rfl rfl h48) ?_
  refine ss_end ?_
  refine ss_retS ?_
  cases g49
  exact ss_retNG (evn_own (k := 0) rfl rfl hp_p1) ((.cons₂ _ .slnil)) rfl
end K00
set_option Elab.async false
set_option linter.all false
set_option maxRecDepth 100000
set_option maxHeartbeats 4000000
set_option autoImplicit false
namespace K00
open PySem PySem.Spec PyProof.Rows L2 T
open PySem.W (Frag)
variable {P : Program} {w : World} {K : PySem.W.Frag} {mg : Str → Option Value} {base : Heap}
theorem w__law_e_second (A : Facts P K mg base) : FnOk P w K mg base CX0 (1 + 1) A.f__law_e_second A.fd__law_e_second ["x"] (SpN (S__law_e_second (ZZ := A.ZZ) A.P__law_e_second) K) := by
  refine A.F__law_e_second.okC sc__law_e_second (len_n (fun args C r C' h => by obtain ⟨_, _, rfl, _⟩ := h; rfl)) (fun cdv AA outer s H vs Q E hcd0 hr h => ?_)
  have nd := sc__law_e_second.nd
  obtain rfl : cdv = .ref A.c__law_e_second := Option.some.inj (hcd0.symm.trans A.cd__law_e_second)
  have hr1 : Room 1 _ := hr.mono (by decide)
  refine ⟨_, (pss_cons (ps_set (i := 1) nd rfl (by first | exact .inl rfl | exact .inr rfl) (pe_lst pa_nil))
      (pss_cons (ps_expr (pe_bm PySem.F.plainAttrs_list PySem.F.slot_list_append PySem.F.type_list_append mt_append (pv 1) (pa_cons (pe_tup (pa_cons (pe_err A.E_BadSextet hr1 (pa_cons (pv 0) pa_nil) (by rfl)) (pa_cons (pe_errKw A.E_BadSextet hr1 (pk_cons (pv 0) pk_nil) (by rfl) (fun _ _ _ _ _ _ _ _ _ _ _ _ => rfl)) (pa_cons (LamX.pe_look (c := A.c__law_e_second) (P := A.P__law_e_second) (q := "_law_e_second.<locals>.<lambda>") (vn := "e") (fld := "sextet") A.TB__law_e_second rfl rfl) (pa_cons (pe_lst (pa_cons (pv 0) pa_nil)) pa_nil))))) pa_nil)))
      (pss_cons (ps_expr (pe_bm PySem.F.plainAttrs_list PySem.F.slot_list_append PySem.F.type_list_append mt_append (pv 1) (pa_cons (pe_tup (pa_cons (pe_err A.E_BadKind hr1 (pa_cons (pv 0) pa_nil) (by rfl)) (pa_cons (pe_errKw A.E_BadKind hr1 (pk_cons (pv 0) pk_nil) (by rfl) (fun _ _ _ _ _ _ _ _ _ _ _ _ => rfl)) (pa_cons (LamX.pe_look (c := A.c__law_e_second) (P := A.P__law_e_second) (q := "_law_e_second.<locals>.<lambda>") (vn := "e") (fld := "kind") A.TB__law_e_second rfl rfl) (pa_cons (pe_lst (pa_cons (pv 0) pa_nil)) pa_nil))))) pa_nil)))
      (pss_cons (ps_expr (pe_bm PySem.F.plainAttrs_list PySem.F.slot_list_append PySem.F.type_list_append mt_append (pv 1) (pa_cons (pe_tup (pa_cons (pe_err A.E_NotApart hr1 (pa_cons (pv 0) pa_nil) (by rfl)) (pa_cons (pe_errKw A.E_NotApart hr1 (pk_cons (pv 0) pk_nil) (by rfl) (fun _ _ _ _ _ _ _ _ _ _ _ _ => rfl)) (pa_cons (LamX.pe_look (c := A.c__law_e_second) (P := A.P__law_e_second) (q := "_law_e_second.<locals>.<lambda>") (vn := "e") (fld := "name") A.TB__law_e_second rfl rfl) (pa_cons (pe_lst (pa_cons (pv 0) pa_nil)) pa_nil))))) pa_nil)))
      (pss_cons (ps_expr (pe_bm PySem.F.plainAttrs_list PySem.F.slot_list_append PySem.F.type_list_append mt_append (pv 1) (pa_cons (pe_tup (pa_cons (pe_err A.E_BadTrio hr1 (pa_cons (pv 0) pa_nil) (by rfl)) (pa_cons (pe_errKw A.E_BadTrio hr1 (pk_cons (pv 0) pk_nil) (by rfl) (fun _ _ _ _ _ _ _ _ _ _ _ _ => rfl)) (pa_cons (LamX.pe_look (c := A.c__law_e_second) (P := A.P__law_e_second) (q := "_law_e_second.<locals>.<lambda>") (vn := "e") (fld := "trio") A.TB__law_e_second rfl rfl) (pa_cons (pe_lst (pa_cons (pv 0) pa_nil)) pa_nil))))) pa_nil)))
      (pss_cons (ps_expr (pe_bm PySem.F.plainAttrs_list PySem.F.slot_list_append PySem.F.type_list_append mt_append (pv 1) (pa_cons (pe_tup (pa_cons (pe_err A.E_BadTwelve hr1 (pa_cons (pv 0) pa_nil) (by rfl)) (pa_cons (pe_errKw A.E_BadTwelve hr1 (pk_cons (pv 0) pk_nil) (by rfl) (fun _ _ _ _ _ _ _ _ _ _ _ _ => rfl)) (pa_cons (LamX.pe_look (c := A.c__law_e_second) (P := A.P__law_e_second) (q := "_law_e_second.<locals>.<lambda>") (vn := "e") (fld := "twelve") A.TB__law_e_second rfl rfl) (pa_cons (pe_lst (pa_cons (pv 0) pa_nil)) pa_nil))))) pa_nil)))
      (pss_cons (ps_expr (pe_bm PySem.F.plainAttrs_list PySem.F.slot_list_append PySem.F.type_list_append mt_append (pv 1) (pa_cons (pe_tup (pa_cons (pe_err A.E_BadSix hr1 (pa_cons (pv 0) pa_nil) (by rfl)) (pa_cons (pe_errKw A.E_BadSix hr1 (pk_cons (pv 0) pk_nil) (by rfl) (fun _ _ _ _ _ _ _ _ _ _ _ _ => rfl)) (pa_cons (LamX.pe_look (c := A.c__law_e_second) (P := A.P__law_e_second) (q := "_law_e_second.<locals>.<lambda>") (vn := "e") (fld := "six") A.TB__law_e_second rfl rfl) (pa_cons (pe_lst (pa_cons (pv 0) pa_nil)) pa_nil))))) pa_nil)))
      (pss_cons (ps_expr (pe_bm PySem.F.plainAttrs_list PySem.F.slot_list_append PySem.F.type_list_append mt_append (pv 1) (pa_cons (pe_tup (pa_cons (pe_err A.E_BadLine hr1 (pa_cons (pv 0) pa_nil) (by rfl)) (pa_cons (pe_errKw A.E_BadLine hr1 (pk_cons (pv 0) pk_nil) (by rfl) (fun _ _ _ _ _ _ _ _ _ _ _ _ => rfl)) (pa_cons (LamX.pe_look (c := A.c__law_e_second) (P := A.P__law_e_second) (q := "_law_e_second.<locals>.<lambda>") (vn := "e") (fld := "line") A.TB__law_e_second rfl rfl) (pa_cons (pe_lst (pa_cons (pv 0) pa_nil)) pa_nil))))) pa_nil)))
      (pss_cons (ps_expr (pe_bm PySem.F.plainAttrs_list PySem.F.slot_list_append PySem.F.type_list_append mt_append (pv 1) (pa_cons (pe_tup (pa_cons (pe_err A.E_BadSixes hr1 (pa_cons (pv 0) pa_nil) (by rfl)) (pa_cons (pe_errKw A.E_BadSixes hr1 (pk_cons (pv 0) pk_nil) (by rfl) (fun _ _ _ _ _ _ _ _ _ _ _ _ => rfl)) (pa_cons (LamX.pe_look (c := A.c__law_e_second) (P := A.P__law_e_second) (q := "_law_e_second.<locals>.<lambda>") (vn := "e") (fld := "sixes") A.TB__law_e_second rfl rfl) (pa_cons (pe_lst (pa_cons (pv 0) pa_nil)) pa_nil))))) pa_nil)))
      (pss_cons (ps_expr (pe_bm PySem.F.plainAttrs_list PySem.F.slot_list_append PySem.F.type_list_append mt_append (pv 1) (pa_cons (pe_tup (pa_cons (pe_err A.E_BadRow hr1 (pa_cons (pv 0) pa_nil) (by rfl)) (pa_cons (pe_errKw A.E_BadRow hr1 (pk_cons (pv 0) pk_nil) (by rfl) (fun _ _ _ _ _ _ _ _ _ _ _ _ => rfl)) (pa_cons (LamX.pe_look (c := A.c__law_e_second) (P := A.P__law_e_second) (q := "_law_e_second.<locals>.<lambda>") (vn := "e") (fld := "row") A.TB__law_e_second rfl rfl) (pa_cons (pe_lst (pa_cons (pv 0) pa_nil)) pa_nil))))) pa_nil)))
      (pss_cons (ps_expr (pe_bm PySem.F.plainAttrs_list PySem.F.slot_list_append PySem.F.type_list_append mt_append (pv 1) (pa_cons (pe_tup (pa_cons (pe_err A.E_BadMarking hr1 (pa_cons (pv 0) pa_nil) (by rfl)) (pa_cons (pe_errKw A.E_BadMarking hr1 (pk_cons (pv 0) pk_nil) (by rfl) (fun _ _ _ _ _ _ _ _ _ _ _ _ => rfl)) (pa_cons (LamX.pe_look (c := A.c__law_e_second) (P := A.P__law_e_second) (q := "_law_e_second.<locals>.<lambda>") (vn := "e") (fld := "marking") A.TB__law_e_second rfl rfl) (pa_cons (pe_lst (pa_cons (pv 0) pa_nil)) pa_nil))))) pa_nil)))
      (pss_cons (ps_expr (pe_bm PySem.F.plainAttrs_list PySem.F.slot_list_append PySem.F.type_list_append mt_append (pv 1) (pa_cons (pe_tup (pa_cons (pe_err A.E_BadMarks hr1 (pa_cons (pv 0) pa_nil) (by rfl)) (pa_cons (pe_errKw A.E_BadMarks hr1 (pk_cons (pv 0) pk_nil) (by rfl) (fun _ _ _ _ _ _ _ _ _ _ _ _ => rfl)) (pa_cons (LamX.pe_look (c := A.c__law_e_second) (P := A.P__law_e_second) (q := "_law_e_second.<locals>.<lambda>") (vn := "e") (fld := "marks") A.TB__law_e_second rfl rfl) (pa_cons (pe_lst (pa_cons (pv 0) pa_nil)) pa_nil))))) pa_nil)))
      (pss_cons (ps_expr (pe_bm PySem.F.plainAttrs_list PySem.F.slot_list_append PySem.F.type_list_append mt_append (pv 1) (pa_cons (pe_tup (pa_cons (pe_err A.E_BadStand hr1 (pa_cons (pv 0) pa_nil) (by rfl)) (pa_cons (pe_errKw A.E_BadStand hr1 (pk_cons (pv 0) pk_nil) (by rfl) (fun _ _ _ _ _ _ _ _ _ _ _ _ => rfl)) (pa_cons (LamX.pe_look (c := A.c__law_e_second) (P := A.P__law_e_second) (q := "_law_e_second.<locals>.<lambda>") (vn := "e") (fld := "stand") A.TB__law_e_second rfl rfl) (pa_cons (pe_lst (pa_cons (pv 0) pa_nil)) pa_nil))))) pa_nil)))
      (pss_cons (ps_expr (pe_bm PySem.F.plainAttrs_list PySem.F.slot_list_append PySem.F.type_list_append mt_append (pv 1) (pa_cons (pe_tup (pa_cons (pe_err A.E_BadLabels hr1 (pa_cons (pv 0) pa_nil) (by rfl)) (pa_cons (pe_errKw A.E_BadLabels hr1 (pk_cons (pv 0) pk_nil) (by rfl) (fun _ _ _ _ _ _ _ _ _ _ _ _ => rfl)) (pa_cons (LamX.pe_look (c := A.c__law_e_second) (P := A.P__law_e_second) (q := "_law_e_second.<locals>.<lambda>") (vn := "e") (fld := "labels") A.TB__law_e_second rfl rfl) (pa_cons (pe_lst (pa_cons (pv 0) pa_nil)) pa_nil))))) pa_nil)))
      (pss_cons (ps_expr (pe_bm PySem.F.plainAttrs_list PySem.F.slot_list_append PySem.F.type_list_append mt_append (pv 1) (pa_cons (pe_tup (pa_cons (pe_err A.E_BadHexa hr1 (pa_cons (pv 0) pa_nil) (by rfl)) (pa_cons (pe_errKw A.E_BadHexa hr1 (pk_cons (pv 0) pk_nil) (by rfl) (fun _ _ _ _ _ _ _ _ _ _ _ _ => rfl)) (pa_cons (LamX.pe_look (c := A.c__law_e_second) (P := A.P__law_e_second) (q := "_law_e_second.<locals>.<lambda>") (vn := "e") (fld := "six") A.TB__law_e_second rfl rfl) (pa_cons (pe_lst (pa_cons (pv 0) pa_nil)) pa_nil))))) pa_nil)))
      (pss_cons (ps_expr (pe_bm PySem.F.plainAttrs_list PySem.F.slot_list_append PySem.F.type_list_append mt_append (pv 1) (pa_cons (pe_tup (pa_cons (pe_err A.E_BadNode hr1 (pa_cons (pv 0) pa_nil) (by rfl)) (pa_cons (pe_errKw A.E_BadNode hr1 (pk_cons (pv 0) pk_nil) (by rfl) (fun _ _ _ _ _ _ _ _ _ _ _ _ => rfl)) (pa_cons (LamX.pe_look (c := A.c__law_e_second) (P := A.P__law_e_second) (q := "_law_e_second.<locals>.<lambda>") (vn := "e") (fld := "node") A.TB__law_e_second rfl rfl) (pa_cons (pe_lst (pa_cons (pv 0) pa_nil)) pa_nil))))) pa_nil)))
      (pss_cons (ps_expr (pe_bm PySem.F.plainAttrs_list PySem.F.slot_list_append PySem.F.type_list_append mt_append (pv 1) (pa_cons (pe_tup (pa_cons (pe_err A.E_BadSignRows hr1 (pa_cons (pv 0) pa_nil) (by rfl)) (pa_cons (pe_errKw A.E_BadSignRows hr1 (pk_cons (pv 0) pk_nil) (by rfl) (fun _ _ _ _ _ _ _ _ _ _ _ _ => rfl)) (pa_cons (LamX.pe_look (c := A.c__law_e_second) (P := A.P__law_e_second) (q := "_law_e_second.<locals>.<lambda>") (vn := "e") (fld := "rows") A.TB__law_e_second rfl rfl) (pa_cons (pe_lst (pa_cons (pv 0) pa_nil)) pa_nil))))) pa_nil)))
      (pss_one (ps_ret (pv 1)))))))))))))))))))), ?_⟩
  refine body_n h fun B args C r C' hK hP hS => ?_
  obtain ⟨v_x, res, rfl, rfl, g0, rfl, rfl⟩ := hS
  subst hK
  refine ss_setN (evn_lst (xs := ([] : List T.Row)) ea_nil (szn (by show 0 ≤ 1000; decide))) fun p1 hp_p1 => ?_
  obtain ⟨x2, h3, g4⟩ := bind_some g0
  refine ss_drop (ev_appO (k := 0) (ev_var rfl) (ea_cons (ev_row (ea_cons (ev_err (ea_cons (ev_var rfl) ea_nil)) (ea_cons (ev_err (ea_cons (ev_var rfl) ea_nil)) (ea_cons (ev_look (k := 1) rfl) (ea_cons (ev_of (evn_lst (xs := ([v_x] : List (Vid D))) (ea_cons (ev_var rfl) ea_nil) (szn (by show 1 ≤ 1000; decide)))) ea_nil))))) ea_nil) rfl rfl h3) ?_
  obtain ⟨x5, h6, g7⟩ := bind_some g4
  refine ss_drop (ev_appO (k := 0) (ev_var rfl) (ea_cons (ev_row (ea_cons (ev_err (ea_cons (ev_var rfl) ea_nil)) (ea_cons (ev_err (ea_cons (ev_var rfl) ea_nil)) (ea_cons (ev_look (k := 1) rfl) (ea_cons (ev_of (evn_lst (xs := ([v_x] : List (Vid D))) (ea_cons (ev_var rfl) ea_nil) (szn (by show 1 ≤ 1000; decide)))) ea_nil))))) ea_nil) rfl rfl h6) ?_
  obtain ⟨x8, h9, g10⟩ := bind_some g7
  refine ss_drop (ev_appO (k := 0) (ev_var rfl) (ea_cons (ev_row (ea_cons (ev_err (ea_cons (ev_var rfl) ea_nil)) (ea_cons (ev_err (ea_cons (ev_var rfl) ea_nil)) (ea_cons (ev_look (k := 1) rfl) (ea_cons (ev_of (evn_lst (xs := ([v_x] : List (Vid D))) (ea_cons (ev_var rfl) ea_nil) (szn (by show 1 ≤ 1000; decide)))) ea_nil))))) ea_nil) rfl rfl h9) ?_
  obtain ⟨x11, h12, g13⟩ := bind_some g10
  refine ss_drop (ev_appO (k := 0) (ev_var rfl) (ea_cons (ev_row (ea_cons (ev_err (ea_cons (ev_var rfl) ea_nil)) (ea_cons (ev_err (ea_cons (ev_var rfl) ea_nil)) (ea_cons (ev_look (k := 1) rfl) (ea_cons (ev_of (evn_lst (xs := ([v_x] : List (Vid D))) (ea_cons (ev_var rfl) ea_nil) (szn (by show 1 ≤ 1000; decide)))) ea_nil))))) ea_nil) rfl rfl h12) ?_
  obtain ⟨x14, h15, g16⟩ := bind_some g13
  refine ss_drop (ev_appO (k := 0) (ev_var rfl) (ea_cons (ev_row (ea_cons (ev_err (ea_cons (ev_var rfl) ea_nil)) (ea_cons (ev_err (ea_cons (ev_var rfl) ea_nil)) (ea_cons (ev_look (k := 1) rfl) (ea_cons (ev_of (evn_lst (xs := ([v_x] : List (Vid D))) (ea_cons (ev_var rfl) ea_nil) (szn (by show 1 ≤ 1000; decide)))) ea_nil))))) ea_nil) rfl rfl h15) ?_
  obtain ⟨x17, h18, g19⟩ := bind_some g16
  refine ss_drop (ev_appO (k := 0) (ev_var rfl) (ea_cons (ev_row (ea_cons (ev_err (ea_cons (ev_var rfl) ea_nil)) (ea_cons (ev_err (ea_cons (ev_var rfl) ea_nil)) (ea_cons (ev_look (k := 1) rfl) (ea_cons (ev_of (evn_lst (xs := ([v_x] : List (Vid D))) (ea_cons (ev_var rfl) ea_nil) (szn (by show 1 ≤ 1000; decide)))) ea_nil))))) ea_nil) rfl rfl h18) ?_
  obtain ⟨x20, h21, g22⟩ := bind_some g19
  refine ss_drop (ev_appO (k := 0) (ev_var rfl) (ea_cons (ev_row (ea_cons (ev_err (ea_cons (ev_var rfl) ea_nil)) (ea_cons (ev_err (ea_cons (ev_var rfl) ea_nil)) (ea_cons (ev_look (k := 1) rfl) (ea_cons (ev_of (evn_lst (xs := ([v_x] : List (Vid D))) (ea_cons (ev_var rfl) ea_nil) (szn (by show 1 ≤ 1000; decide)))) ea_nil))))) ea_nil) rfl rfl h21) ?_
  obtain ⟨x23, h24, g25⟩ := bind_some g22
  refine ss_drop (ev_appO (k := 0) (ev_var rfl) (ea_cons (ev_row (ea_cons (ev_err (ea_cons (ev_var rfl) ea_nil)) (ea_cons (ev_err (ea_cons (ev_var rfl) ea_nil)) (ea_cons (ev_look (k := 1) rfl) (ea_cons (ev_of (evn_lst (xs := ([v_x] : List (Vid D))) (ea_cons (ev_var rfl) ea_nil) (szn (by show 1 ≤ 1000; decide)))) ea_nil))))) ea_nil) rfl rfl h24) ?_
  obtain ⟨x26, h27, g28⟩ := bind_some g25
  refine ss_drop (ev_appO (k := 0) (ev_var rfl) (ea_cons (ev_row (ea_cons (ev_err (ea_cons (ev_var rfl) ea_nil)) (ea_cons (ev_err (ea_cons (ev_var rfl) ea_nil)) (ea_cons (ev_look (k := 1) rfl) (ea_cons (ev_of (evn_lst (xs := ([v_x] : List (Vid D))) (ea_cons (ev_var rfl) ea_nil) (szn (by show 1 ≤ 1000; decide)))) ea_nil))))) ea_nil) rfl rfl h27) ?_
  obtain ⟨x29, h30, g31⟩ := bind_some g28
  refine ss_drop (ev_appO (k := 0) (ev_var rfl) (ea_cons (ev_row (ea_cons (ev_err (ea_cons (ev_var rfl) ea_nil)) (ea_cons (ev_err (ea_cons (ev_var rfl) ea_nil)) (ea_cons (ev_look (k := 1) rfl) (ea_cons (ev_of (evn_lst (xs := ([v_x] : List (Vid D))) (ea_cons (ev_var rfl) ea_nil) (szn (by show 1 ≤ 1000; decide)))) ea_nil))))) ea_nil) rfl rfl h30) ?_
  obtain ⟨x32, h33, g34⟩ := bind_some g31
  refine ss_drop (ev_appO (k := 0) (ev_var rfl) (ea_cons (ev_row (ea_cons (ev_err (ea_cons (ev_var rfl) ea_nil)) (ea_cons (ev_err (ea_cons (ev_var rfl) ea_nil)) (ea_cons (ev_look (k := 1) rfl) (ea_cons (ev_of (evn_lst (xs := ([v_x] : List (Vid D))) (ea_cons (ev_var rfl) ea_nil) (szn (by show 1 ≤ 1000; decide)))) ea_nil))))) ea_nil) rfl rfl h33) ?_
  obtain ⟨x35, h36, g37⟩ := bind_some g34
  refine ss_drop (ev_appO (k := 0) (ev_var rfl) (ea_cons (ev_row (ea_cons (ev_err (ea_cons (ev_var rfl) ea_nil)) (ea_cons (ev_err (ea_cons (ev_var rfl) ea_nil)) (ea_cons (ev_look (k := 1) rfl) (ea_cons (ev_of (evn_lst (xs := ([v_x] : List (Vid D))) (ea_cons (ev_var rfl) ea_nil) (szn (by show 1 ≤ 1000; decide)))) ea_nil))))) ea_nil) rfl rfl h36) ?_
  obtain ⟨x38, h39, g40⟩ := bind_some g37
  refine ss_drop (ev_appO (k := 0) (ev_var rfl) (ea_cons (ev_row (ea_cons (ev_err (ea_cons (ev_var rfl) ea_nil)) (ea_cons (ev_err (ea_cons (ev_var rfl) ea_nil)) (ea_cons (ev_look (k := 1) rfl) (ea_cons (ev_of (evn_lst (xs := ([v_x] : List (Vid D))) (ea_cons (ev_var rfl) ea_nil) (szn (by show 1 ≤ 1000; decide)))) ea_nil))))) ea_nil) rfl rfl h39) ?_
  obtain ⟨x41, h42, g43⟩ := bind_some g40
  refine ss_drop (ev_appO (k := 0) (ev_var rfl) (ea_cons (ev_row (ea_cons (ev_err (ea_cons (ev_var rfl) ea_nil)) (ea_cons (ev_err (ea_cons (ev_var rfl) ea_nil)) (ea_cons (ev_look (k := 1) rfl) (ea_cons (ev_of (evn_lst (xs := ([v_x] : List (Vid D))) (ea_cons (ev_var rfl) ea_nil) (szn (by show 1 ≤ 1000; decide)))) ea_nil))))) ea_nil) rfl rfl h42) ?_
  obtain ⟨x44, h45, g46⟩ := bind_some g43
  refine ss_drop (ev_appO (k := 0) (ev_var rfl) (ea_cons (ev_row (ea_cons (ev_err (ea_cons (ev_var rfl) ea_nil)) (ea_cons (ev_err (ea_cons (ev_var rfl) ea_nil)) (ea_cons (ev_look (k := 1) rfl) (ea_cons (ev_of (evn_lst (xs := ([v_x] : List (Vid D))) (ea_cons (ev_var rfl) ea_nil) (szn (by show 1 ≤ 1000; decide)))) ea_nil))))) ea_nil) rfl rfl h45) ?_
  obtain ⟨x47, h48, g49⟩ := bind_some g46
  refine ss_drop (ev_appO (k := 0) (ev_var rfl) (ea_cons (ev_row (ea_cons (ev_err (ea_cons (ev_var rfl) ea_nil)) (ea_cons (ev_err (ea_cons (ev_var rfl) ea_nil)) (ea_cons (ev_look (k := 1) rfl) (ea_cons (ev_of (evn_lst (xs := ([v_x] : List (Vid D))) (ea_cons (ev_var rfl) ea_nil) (szn (by show 1 ≤ 1000; decide)))) ea_nil))))) ea_nil) rfl rfl h48) ?_
  refine ss_end ?_
  refine ss_retS ?_
  cases g49
  exact ss_retNG (evn_own (k := 0) rfl rfl hp_p1) ((.cons₂ _ .slnil)) rfl
end K00
set_option Elab.async false
set_option linter.all false
set_option maxRecDepth 100000
set_option maxHeartbeats 4000000
set_option autoImplicit false
namespace K00
open PySem PySem.Spec PyProof.Rows L2 T
open PySem.W (Frag)
variable {P : Program} {w : World} {K : PySem.W.Frag} {mg : Str → Option Value} {base : Heap}
theorem w__law_e_third (A : Facts P K mg base) : FnOk P w K mg base CX0 (1 + 1) A.f__law_e_third A.fd__law_e_third ["x"] (SpN (S__law_e_third (ZZ := A.ZZ) A.P__law_e_third) K) := by
  refine A.F__law_e_third.okC sc__law_e_third (len_n (fun args C r C' h => by obtain ⟨_, _, rfl, _⟩ := h; rfl)) (fun cdv AA outer s H vs Q E hcd0 hr h => ?_)
  have nd := sc__law_e_third.nd
  obtain rfl : cdv = .ref A.c__law_e_third := Option.some.inj (hcd0.symm.trans A.cd__law_e_third)
  have hr1 : Room 1 _ := hr.mono (by decide)
  refine ⟨_, (pss_cons (ps_set (i := 1) nd rfl (by first | exact .inl rfl | exact .inr rfl) (pe_lst pa_nil))
      (pss_cons (ps_expr (pe_bm PySem.F.plainAttrs_list PySem.F.slot_list_append PySem.F.type_list_append mt_append (pv 1) (pa_cons (pe_tup (pa_cons (pe_err A.E_BadPart hr1 (pa_cons (pv 0) pa_nil) (by rfl)) (pa_cons (pe_errKw A.E_BadPart hr1 (pk_cons (pv 0) pk_nil) (by rfl) (fun _ _ _ _ _ _ _ _ _ _ _ _ => rfl)) (pa_cons (LamX.pe_look (c := A.c__law_e_third) (P := A.P__law_e_third) (q := "_law_e_third.<locals>.<lambda>") (vn := "e") (fld := "part") A.TB__law_e_third rfl rfl) (pa_cons (pe_lst (pa_cons (pv 0) pa_nil)) pa_nil))))) pa_nil)))
      (pss_cons (ps_expr (pe_bm PySem.F.plainAttrs_list PySem.F.slot_list_append PySem.F.type_list_append mt_append (pv 1) (pa_cons (pe_tup (pa_cons (pe_err A.E_BadRing hr1 (pa_cons (pv 0) pa_nil) (by rfl)) (pa_cons (pe_errKw A.E_BadRing hr1 (pk_cons (pv 0) pk_nil) (by rfl) (fun _ _ _ _ _ _ _ _ _ _ _ _ => rfl)) (pa_cons (LamX.pe_look (c := A.c__law_e_third) (P := A.P__law_e_third) (q := "_law_e_third.<locals>.<lambda>") (vn := "e") (fld := "ring") A.TB__law_e_third rfl rfl) (pa_cons (pe_lst (pa_cons (pv 0) pa_nil)) pa_nil))))) pa_nil)))
      (pss_cons (ps_expr (pe_bm PySem.F.plainAttrs_list PySem.F.slot_list_append PySem.F.type_list_append mt_append (pv 1) (pa_cons (pe_tup (pa_cons (pe_err A.E_BadPlaces hr1 (pa_cons (pv 0) pa_nil) (by rfl)) (pa_cons (pe_errKw A.E_BadPlaces hr1 (pk_cons (pv 0) pk_nil) (by rfl) (fun _ _ _ _ _ _ _ _ _ _ _ _ => rfl)) (pa_cons (LamX.pe_look (c := A.c__law_e_third) (P := A.P__law_e_third) (q := "_law_e_third.<locals>.<lambda>") (vn := "e") (fld := "places") A.TB__law_e_third rfl rfl) (pa_cons (pe_lst (pa_cons (pv 0) pa_nil)) pa_nil))))) pa_nil)))
      (pss_cons (ps_expr (pe_bm PySem.F.plainAttrs_list PySem.F.slot_list_append PySem.F.type_list_append mt_append (pv 1) (pa_cons (pe_tup (pa_cons (pe_err A.E_BadTrust hr1 (pa_cons (pv 0) pa_nil) (by rfl)) (pa_cons (pe_errKw A.E_BadTrust hr1 (pk_cons (pv 0) pk_nil) (by rfl) (fun _ _ _ _ _ _ _ _ _ _ _ _ => rfl)) (pa_cons (LamX.pe_look (c := A.c__law_e_third) (P := A.P__law_e_third) (q := "_law_e_third.<locals>.<lambda>") (vn := "e") (fld := "trust") A.TB__law_e_third rfl rfl) (pa_cons (pe_lst (pa_cons (pv 0) pa_nil)) pa_nil))))) pa_nil)))
      (pss_cons (ps_expr (pe_bm PySem.F.plainAttrs_list PySem.F.slot_list_append PySem.F.type_list_append mt_append (pv 1) (pa_cons (pe_tup (pa_cons (pe_err A.E_BadWords hr1 (pa_cons (pv 0) pa_nil) (by rfl)) (pa_cons (pe_errKw A.E_BadWords hr1 (pk_cons (pv 0) pk_nil) (by rfl) (fun _ _ _ _ _ _ _ _ _ _ _ _ => rfl)) (pa_cons (LamX.pe_look (c := A.c__law_e_third) (P := A.P__law_e_third) (q := "_law_e_third.<locals>.<lambda>") (vn := "e") (fld := "words") A.TB__law_e_third rfl rfl) (pa_cons (pe_lst (pa_cons (pv 0) pa_nil)) pa_nil))))) pa_nil)))
      (pss_cons (ps_expr (pe_bm PySem.F.plainAttrs_list PySem.F.slot_list_append PySem.F.type_list_append mt_append (pv 1) (pa_cons (pe_tup (pa_cons (pe_err A.E_BadShape hr1 (pa_cons (pv 0) pa_nil) (by rfl)) (pa_cons (pe_errKw A.E_BadShape hr1 (pk_cons (pv 0) pk_nil) (by rfl) (fun _ _ _ _ _ _ _ _ _ _ _ _ => rfl)) (pa_cons (LamX.pe_look (c := A.c__law_e_third) (P := A.P__law_e_third) (q := "_law_e_third.<locals>.<lambda>") (vn := "e") (fld := "shape") A.TB__law_e_third rfl rfl) (pa_cons (pe_lst (pa_cons (pv 0) pa_nil)) pa_nil))))) pa_nil)))
      (pss_cons (ps_expr (pe_bm PySem.F.plainAttrs_list PySem.F.slot_list_append PySem.F.type_list_append mt_append (pv 1) (pa_cons (pe_tup (pa_cons (pe_err A.E_Within hr1 (pa_cons (pv 0) pa_nil) (by rfl)) (pa_cons (pe_errKw A.E_Within hr1 (pk_cons (pv 0) pk_nil) (by rfl) (fun _ _ _ _ _ _ _ _ _ _ _ _ => rfl)) (pa_cons (LamX.pe_look (c := A.c__law_e_third) (P := A.P__law_e_third) (q := "_law_e_third.<locals>.<lambda>") (vn := "e") (fld := "name") A.TB__law_e_third rfl rfl) (pa_cons (pe_lst (pa_cons (pv 0) pa_nil)) pa_nil))))) pa_nil)))
      (pss_cons (ps_expr (pe_bm PySem.F.plainAttrs_list PySem.F.slot_list_append PySem.F.type_list_append mt_append (pv 1) (pa_cons (pe_tup (pa_cons (pe_err A.E_Without hr1 (pa_cons (pv 0) pa_nil) (by rfl)) (pa_cons (pe_errKw A.E_Without hr1 (pk_cons (pv 0) pk_nil) (by rfl) (fun _ _ _ _ _ _ _ _ _ _ _ _ => rfl)) (pa_cons (LamX.pe_look (c := A.c__law_e_third) (P := A.P__law_e_third) (q := "_law_e_third.<locals>.<lambda>") (vn := "e") (fld := "name") A.TB__law_e_third rfl rfl) (pa_cons (pe_lst (pa_cons (pv 0) pa_nil)) pa_nil))))) pa_nil)))
      (pss_cons (ps_expr (pe_bm PySem.F.plainAttrs_list PySem.F.slot_list_append PySem.F.type_list_append mt_append (pv 1) (pa_cons (pe_tup (pa_cons (pe_err A.E_BadStep hr1 (pa_cons (pv 0) pa_nil) (by rfl)) (pa_cons (pe_errKw A.E_BadStep hr1 (pk_cons (pv 0) pk_nil) (by rfl) (fun _ _ _ _ _ _ _ _ _ _ _ _ => rfl)) (pa_cons (LamX.pe_look (c := A.c__law_e_third) (P := A.P__law_e_third) (q := "_law_e_third.<locals>.<lambda>") (vn := "e") (fld := "step") A.TB__law_e_third rfl rfl) (pa_cons (pe_lst (pa_cons (pv 0) pa_nil)) pa_nil))))) pa_nil)))
      (pss_cons (ps_expr (pe_bm PySem.F.plainAttrs_list PySem.F.slot_list_append PySem.F.type_list_append mt_append (pv 1) (pa_cons (pe_tup (pa_cons (pe_err A.E_BadSteps hr1 (pa_cons (pv 0) pa_nil) (by rfl)) (pa_cons (pe_errKw A.E_BadSteps hr1 (pk_cons (pv 0) pk_nil) (by rfl) (fun _ _ _ _ _ _ _ _ _ _ _ _ => rfl)) (pa_cons (LamX.pe_look (c := A.c__law_e_third) (P := A.P__law_e_third) (q := "_law_e_third.<locals>.<lambda>") (vn := "e") (fld := "steps") A.TB__law_e_third rfl rfl) (pa_cons (pe_lst (pa_cons (pv 0) pa_nil)) pa_nil))))) pa_nil)))
      (pss_cons (ps_expr (pe_bm PySem.F.plainAttrs_list PySem.F.slot_list_append PySem.F.type_list_append mt_append (pv 1) (pa_cons (pe_tup (pa_cons (pe_err A.E_Refused hr1 (pa_cons (pv 0) pa_nil) (by rfl)) (pa_cons (pe_errKw A.E_Refused hr1 (pk_cons (pv 0) pk_nil) (by rfl) (fun _ _ _ _ _ _ _ _ _ _ _ _ => rfl)) (pa_cons (LamX.pe_look (c := A.c__law_e_third) (P := A.P__law_e_third) (q := "_law_e_third.<locals>.<lambda>") (vn := "e") (fld := "fault") A.TB__law_e_third rfl rfl) (pa_cons (pe_lst (pa_cons (pv 0) pa_nil)) pa_nil))))) pa_nil)))
      (pss_cons (ps_expr (pe_bm PySem.F.plainAttrs_list PySem.F.slot_list_append PySem.F.type_list_append mt_append (pv 1) (pa_cons (pe_tup (pa_cons (pe_err A.E_BadJournal hr1 (pa_cons (pv 0) pa_nil) (by rfl)) (pa_cons (pe_errKw A.E_BadJournal hr1 (pk_cons (pv 0) pk_nil) (by rfl) (fun _ _ _ _ _ _ _ _ _ _ _ _ => rfl)) (pa_cons (LamX.pe_look (c := A.c__law_e_third) (P := A.P__law_e_third) (q := "_law_e_third.<locals>.<lambda>") (vn := "e") (fld := "journal") A.TB__law_e_third rfl rfl) (pa_cons (pe_lst (pa_cons (pv 0) pa_nil)) pa_nil))))) pa_nil)))
      (pss_cons (ps_expr (pe_bm PySem.F.plainAttrs_list PySem.F.slot_list_append PySem.F.type_list_append mt_append (pv 1) (pa_cons (pe_tup (pa_cons (pe_err A.E_BadNumbering hr1 (pa_cons (pv 0) pa_nil) (by rfl)) (pa_cons (pe_errKw A.E_BadNumbering hr1 (pk_cons (pv 0) pk_nil) (by rfl) (fun _ _ _ _ _ _ _ _ _ _ _ _ => rfl)) (pa_cons (LamX.pe_look (c := A.c__law_e_third) (P := A.P__law_e_third) (q := "_law_e_third.<locals>.<lambda>") (vn := "e") (fld := "numbering") A.TB__law_e_third rfl rfl) (pa_cons (pe_lst (pa_cons (pv 0) pa_nil)) pa_nil))))) pa_nil)))
      (pss_cons (ps_expr (pe_bm PySem.F.plainAttrs_list PySem.F.slot_list_append PySem.F.type_list_append mt_append (pv 1) (pa_cons (pe_tup (pa_cons (pe_err A.E_BadVector hr1 (pa_cons (pv 0) pa_nil) (by rfl)) (pa_cons (pe_errKw A.E_BadVector hr1 (pk_cons (pv 0) pk_nil) (by rfl) (fun _ _ _ _ _ _ _ _ _ _ _ _ => rfl)) (pa_cons (LamX.pe_look (c := A.c__law_e_third) (P := A.P__law_e_third) (q := "_law_e_third.<locals>.<lambda>") (vn := "e") (fld := "vector") A.TB__law_e_third rfl rfl) (pa_cons (pe_lst (pa_cons (pv 0) pa_nil)) pa_nil))))) pa_nil)))
      (pss_cons (ps_expr (pe_bm PySem.F.plainAttrs_list PySem.F.slot_list_append PySem.F.type_list_append mt_append (pv 1) (pa_cons (pe_tup (pa_cons (pe_err A.E_NoVector hr1 (pa_cons (pv 0) pa_nil) (by rfl)) (pa_cons (pe_errKw A.E_NoVector hr1 (pk_cons (pv 0) pk_nil) (by rfl) (fun _ _ _ _ _ _ _ _ _ _ _ _ => rfl)) (pa_cons (LamX.pe_look (c := A.c__law_e_third) (P := A.P__law_e_third) (q := "_law_e_third.<locals>.<lambda>") (vn := "e") (fld := "index") A.TB__law_e_third rfl rfl) (pa_cons (pe_lst (pa_cons (pv 0) pa_nil)) pa_nil))))) pa_nil)))
      (pss_cons (ps_expr (pe_bm PySem.F.plainAttrs_list PySem.F.slot_list_append PySem.F.type_list_append mt_append (pv 1) (pa_cons (pe_tup (pa_cons (pe_err A.E_TooGreat hr1 (pa_cons (pv 0) pa_nil) (by rfl)) (pa_cons (pe_errKw A.E_TooGreat hr1 (pk_cons (pv 0) pk_nil) (by rfl) (fun _ _ _ _ _ _ _ _ _ _ _ _ => rfl)) (pa_cons (LamX.pe_look (c := A.c__law_e_third) (P := A.P__law_e_third) (q := "_law_e_third.<locals>.<lambda>") (vn := "e") (fld := "name") A.TB__law_e_third rfl rfl) (pa_cons (pe_lst (pa_cons (pv 0) pa_nil)) pa_nil))))) pa_nil)))
      (pss_one (ps_ret (pv 1)))))))))))))))))))), ?_⟩
  refine body_n h fun B args C r C' hK hP hS => ?_
  obtain ⟨v_x, res, rfl, rfl, g0, rfl, rfl⟩ := hS
  subst hK
  refine ss_setN (evn_lst (xs := ([] : List T.Row)) ea_nil (szn (by show 0 ≤ 1000; decide))) fun p1 hp_p1 => ?_
  obtain ⟨x2, h3, g4⟩ := bind_some g0
  refine ss_drop (ev_appO (k := 0) (ev_var rfl) (ea_cons (ev_row (ea_cons (ev_err (ea_cons (ev_var rfl) ea_nil)) (ea_cons (ev_err (ea_cons (ev_var rfl) ea_nil)) (ea_cons (ev_look (k := 1) rfl) (ea_cons (ev_of (evn_lst (xs := ([v_x] : List (Vid D))) (ea_cons (ev_var rfl) ea_nil) (szn (by show 1 ≤ 1000; decide)))) ea_nil))))) ea_nil) rfl rfl h3) ?_
  obtain ⟨x5, h6, g7⟩ := bind_some g4
  refine ss_drop (ev_appO (k := 0) (ev_var rfl) (ea_cons (ev_row (ea_cons (ev_err (ea_cons (ev_var rfl) ea_nil)) (ea_cons (ev_err (ea_cons (ev_var rfl) ea_nil)) (ea_cons (ev_look (k := 1) rfl) (ea_cons (ev_of (evn_lst (xs := ([v_x] : List (Vid D))) (ea_cons (ev_var rfl) ea_nil) (szn (by show 1 ≤ 1000; decide)))) ea_nil))))) ea_nil) rfl rfl h6) ?_
  obtain ⟨x8, h9, g10⟩ := bind_some g7
  refine ss_drop (ev_appO (k := 0) (ev_var rfl) (ea_cons (ev_row (ea_cons (ev_err (ea_cons (ev_var rfl) ea_nil)) (ea_cons (ev_err (ea_cons (ev_var rfl) ea_nil)) (ea_cons (ev_look (k := 1) rfl) (ea_cons (ev_of (evn_lst (xs := ([v_x] : List (Vid D))) (ea_cons (ev_var rfl) ea_nil) (szn (by show 1 ≤ 1000; decide)))) ea_nil))))) ea_nil) rfl rfl h9) ?_
  obtain ⟨x11, h12, g13⟩ := bind_some g10
  refine ss_drop (ev_appO (k := 0) (ev_var rfl) (ea_cons (ev_row (ea_cons (ev_err (ea_cons (ev_var rfl) ea_nil)) (ea_cons (ev_err (ea_cons (ev_var rfl) ea_nil)) (ea_cons (ev_look (k := 1) rfl) (ea_cons (ev_of (evn_lst (xs := ([v_x] : List (Vid D))) (ea_cons (ev_var rfl) ea_nil) (szn (by show 1 ≤ 1000; decide)))) ea_nil))))) ea_nil) rfl rfl h12) ?_
  obtain ⟨x14, h15, g16⟩ := bind_some g13
  refine ss_drop (ev_appO (k := 0) (ev_var rfl) (ea_cons (ev_row (ea_cons (ev_err (ea_cons (ev_var rfl) ea_nil)) (ea_cons (ev_err (ea_cons (ev_var rfl) ea_nil)) (ea_cons (ev_look (k := 1) rfl) (ea_cons (ev_of (evn_lst (xs := ([v_x] : List (Vid D))) (ea_cons (ev_var rfl) ea_nil) (szn (by show 1 ≤ 1000; decide)))) ea_nil))))) ea_nil) rfl rfl h15) ?_
  obtain ⟨x17, h18, g19⟩ := bind_some g16
  refine ss_drop (ev_appO (k := 0) (ev_var rfl) (ea_cons (ev_row (ea_cons (ev_err (ea_cons (ev_var rfl) ea_nil)) (ea_cons (ev_err (ea_cons (ev_var rfl) ea_nil)) (ea_cons (ev_look (k := 1) rfl) (ea_cons (ev_of (evn_lst (xs := ([v_x] : List (Vid D))) (ea_cons (ev_var rfl) ea_nil) (szn (by show 1 ≤ 1000; decide)))) ea_nil))))) ea_nil) rfl rfl h18) ?_
  obtain ⟨x20, h21, g22⟩ := bind_some g19
  refine ss_drop (ev_appO (k := 0) (ev_var rfl) (ea_cons (ev_row (ea_cons (ev_err (ea_cons (ev_var rfl) ea_nil)) (ea_cons (ev_err (ea_cons (ev_var rfl) ea_nil)) (ea_cons (ev_look (k := 1) rfl) (ea_cons (ev_of (evn_lst (xs := ([v_x] : List (Vid D))) (ea_cons (ev_var rfl) ea_nil) (szn (by show 1 ≤ 1000; decide)))) ea_nil))))) ea_nil) rfl rfl h21) ?_
  obtain ⟨x23, h24, g25⟩ := bind_some g22
  refine ss_drop (ev_appO (k := 0) (ev_var rfl) (ea_cons (ev_row (ea_cons (ev_err (ea_cons (ev_var rfl) ea_nil)) (ea_cons (ev_err (ea_cons (ev_var rfl) ea_nil)) (ea_cons (ev_look (k := 1) rfl) (ea_cons (ev_of (evn_lst (xs := ([v_x] : List (Vid D))) (ea_cons (ev_var rfl) ea_nil) (szn (by show 1 ≤ 1000; decide)))) ea_nil))))) ea_nil) rfl rfl h24) ?_
  obtain ⟨x26, h27, g28⟩ := bind_some g25
  refine ss_drop (ev_appO (k := 0) (ev_var rfl) (ea_cons (ev_row (ea_cons (ev_err (ea_cons (ev_var rfl) ea_nil)) (ea_cons (ev_err (ea_cons (ev_var rfl) ea_nil)) (ea_cons (ev_look (k := 1) rfl) (ea_cons (ev_of (evn_lst (xs := ([v_x] : List (Vid D))) (ea_cons (ev_var rfl) ea_nil) (szn (by show 1 ≤ 1000; decide)))) ea_nil))))) ea_nil) rfl rfl h27) ?_
  obtain ⟨x29, h30, g31⟩ := bind_some g28
  refine ss_drop (ev_appO (k := 0) (ev_var rfl) (ea_cons (ev_row (ea_cons (ev_err (ea_cons (ev_var rfl) ea_nil)) (ea_cons (ev_err (ea_cons (ev_var rfl) ea_nil)) (ea_cons (ev_look (k := 1) rfl) (ea_cons (ev_of (evn_lst (xs := ([v_x] : List (Vid D))) (ea_cons (ev_var rfl) ea_nil) (szn (by show 1 ≤ 1000; decide)))) ea_nil))))) ea_nil) rfl rfl h30) ?_
  obtain ⟨x32, h33, g34⟩ := bind_some g31
  refine ss_drop (ev_appO (k := 0) (ev_var rfl) (ea_cons (ev_row (ea_cons (ev_err (ea_cons (ev_var rfl) ea_nil)) (ea_cons (ev_err (ea_cons (ev_var rfl) ea_nil)) (ea_cons (ev_look (k := 1) rfl) (ea_cons (ev_of (evn_lst (xs := ([v_x] : List (Vid D))) (ea_cons (ev_var rfl) ea_nil) (szn (by show 1 ≤ 1000; decide)))) ea_nil))))) ea_nil) rfl rfl h33) ?_
  obtain ⟨x35, h36, g37⟩ := bind_some g34
  refine ss_drop (ev_appO (k := 0) (ev_var rfl) (ea_cons (ev_row (ea_cons (ev_err (ea_cons (ev_var rfl) ea_nil)) (ea_cons (ev_err (ea_cons (ev_var rfl) ea_nil)) (ea_cons (ev_look (k := 1) rfl) (ea_cons (ev_of (evn_lst (xs := ([v_x] : List (Vid D))) (ea_cons (ev_var rfl) ea_nil) (szn (by show 1 ≤ 1000; decide)))) ea_nil))))) ea_nil) rfl rfl h36) ?_
  obtain ⟨x38, h39, g40⟩ := bind_some g37
  refine ss_drop (ev_appO (k := 0) (ev_var rfl) (ea_cons (ev_row (ea_cons (ev_err (ea_cons (ev_var rfl) ea_nil)) (ea_cons (ev_err (ea_cons (ev_var rfl) ea_nil)) (ea_cons (ev_look (k := 1) rfl) (ea_cons (ev_of (evn_lst (xs := ([v_x] : List (Vid D))) (ea_cons (ev_var rfl) ea_nil) (szn (by show 1 ≤ 1000; decide)))) ea_nil))))) ea_nil) rfl rfl h39) ?_
  obtain ⟨x41, h42, g43⟩ := bind_some g40
  refine ss_drop (ev_appO (k := 0) (ev_var rfl) (ea_cons (ev_row (ea_cons (ev_err (ea_cons (ev_var rfl) ea_nil)) (ea_cons (ev_err (ea_cons (ev_var rfl) ea_nil)) (ea_cons (ev_look (k := 1) rfl) (ea_cons (ev_of (evn_lst (xs := ([v_x] : List (Vid D))) (ea_cons (ev_var rfl) ea_nil) (szn (by show 1 ≤ 1000; decide)))) ea_nil))))) ea_nil) rfl rfl h42) ?_
  obtain ⟨x44, h45, g46⟩ := bind_some g43
  refine ss_drop (ev_appO (k := 0) (ev_var rfl) (ea_cons (ev_row (ea_cons (ev_err (ea_cons (ev_var rfl) ea_nil)) (ea_cons (ev_err (ea_cons (ev_var rfl) ea_nil)) (ea_cons (ev_look (k := 1) rfl) (ea_cons (ev_of (evn_lst (xs := ([v_x] : List (Vid D))) (ea_cons (ev_var rfl) ea_nil) (szn (by show 1 ≤ 1000; decide)))) ea_nil))))) ea_nil) rfl rfl h45) ?_
  obtain ⟨x47, h48, g49⟩ := bind_some g46
  refine ss_drop (ev_appO (k := 0) (ev_var rfl) (ea_cons (ev_row (ea_cons (ev_err (ea_cons (ev_var rfl) ea_nil)) (ea_cons (ev_err (ea_cons (ev_var rfl) ea_nil)) (ea_cons (ev_look (k := 1) rfl) (ea_cons (ev_of (evn_lst (xs := ([v_x] : List (Vid D))) (ea_cons (ev_var rfl) ea_nil) (szn (by show 1 ≤ 1000; decide)))) ea_nil))))) ea_nil) rfl rfl h48) ?_
  refine ss_end ?_
  refine ss_retS ?_
  cases g49
  exact ss_retNG (evn_own (k := 0) rfl rfl hp_p1) ((.cons₂ _ .slnil)) rfl
end K00
set_option Elab.async false
set_option linter.all false
set_option maxRecDepth 100000
set_option maxHeartbeats 4000000
set_option autoImplicit false
namespace K00
open PySem PySem.Spec PyProof.Rows L2 T
open PySem.W (Frag)
variable {P : Program} {w : World} {K : PySem.W.Frag} {mg : Str → Option Value} {base : Heap}
theorem w__law_e_fourth (A : Facts P K mg base) : FnOk P w K mg base CX0 (1 + 1) A.f__law_e_fourth A.fd__law_e_fourth ["x", "y"] (SpN (S__law_e_fourth (ZZ := A.ZZ) A.P__law_e_fourth) K) := by
  refine A.F__law_e_fourth.okC sc__law_e_fourth (len_n (fun args C r C' h => by obtain ⟨_, _, _, rfl, _⟩ := h; rfl)) (fun cdv AA outer s H vs Q E hcd0 hr h => ?_)
  have nd := sc__law_e_fourth.nd
  obtain rfl : cdv = .ref A.c__law_e_fourth := Option.some.inj (hcd0.symm.trans A.cd__law_e_fourth)
  have hr1 : Room 1 _ := hr.mono (by decide)
  refine ⟨_, (pss_cons (ps_set (i := 2) nd rfl (by first | exact .inl rfl | exact .inr rfl) (pe_lst pa_nil))
      (pss_cons (ps_expr (pe_bm PySem.F.plainAttrs_list PySem.F.slot_list_append PySem.F.type_list_append mt_append (pv 2) (pa_cons (pe_tup (pa_cons (pe_err2 A.E_BadText hr1 (pa_cons (pv 0) (pa_cons (pv 1) pa_nil)) (by rfl)) (pa_cons (pe_err2Kw A.E_BadText hr1 (pk_cons (pv 0) (pk_cons (pv 1) pk_nil)) (by rfl)) (pa_cons (LamX.pe_look2 (c := A.c__law_e_fourth) (P := A.P__law_e_fourth) (q := "_law_e_fourth.<locals>.<lambda>") (vn := "e") (fld := "text") (fl2 := "line") A.TB__law_e_fourth rfl rfl) (pa_cons (pe_lst (pa_cons (pv 0) (pa_cons (pv 1) pa_nil))) pa_nil))))) pa_nil)))
      (pss_one (ps_ret (pv 2))))), ?_⟩
  refine body_n h fun B args C r C' hK hP hS => ?_
  obtain ⟨v_x, v_y, res, rfl, rfl, g0, rfl, rfl⟩ := hS
  subst hK
  refine ss_setN (evn_lst (xs := ([] : List T.Row)) ea_nil (szn (by show 0 ≤ 1000; decide))) fun p1 hp_p1 => ?_
  obtain ⟨x2, h3, g4⟩ := bind_some g0
  refine ss_drop (ev_appO (k := 0) (ev_var rfl) (ea_cons (ev_row (ea_cons (ev_err2 (ea_cons (ev_var rfl) (ea_cons (ev_var rfl) ea_nil))) (ea_cons (ev_err2 (ea_cons (ev_var rfl) (ea_cons (ev_var rfl) ea_nil))) (ea_cons (ev_look2 (k := 1) rfl) (ea_cons (ev_of (evn_lst (xs := ([v_x, v_y] : List (Vid D))) (ea_cons (ev_var rfl) (ea_cons (ev_var rfl) ea_nil)) (szn (by show 2 ≤ 1000; decide)))) ea_nil))))) ea_nil) rfl rfl h3) ?_
  refine ss_end ?_
  refine ss_retS ?_
  cases g4
  exact ss_retNG (evn_own (k := 0) rfl rfl hp_p1) ((.cons₂ _ .slnil)) rfl
end K00
set_option Elab.async false
set_option linter.all false
set_option maxRecDepth 100000
set_option maxHeartbeats 4000000
set_option autoImplicit false
namespace K00
open PySem PySem.Spec PyProof.Rows L2 T
open PySem.W (Frag)
variable {P : Program} {w : World} {K : PySem.W.Frag} {mg : Str → Option Value} {base : Heap}
theorem w__law_e_right (A : Facts P K mg base) : FnOk P w K mg base CX0 (7 + 1) A.f__law_e_right A.fd__law_e_right ["row", "at"] (SpV (S__law_e_right (ZZ := A.ZZ)) K) := by
  refine A.F__law_e_right.ok sc__law_e_right (len_v (fun args C r C' h => by obtain ⟨_, _, _, rfl, _⟩ := h; rfl)) (fun cdv AA outer s H vs Q E hr h => ?_)
  have nd := sc__law_e_right.nd
  have hr1 : Room 1 _ := hr.mono (by decide)
  have hr2 : Room 2 _ := hr.mono (by decide)
  have hr3 : Room 3 _ := hr.mono (by decide)
  have hr4 : Room 4 _ := hr.mono (by decide)
  have hr5 : Room 5 _ := hr.mono (by decide)
  have hr6 : Room 6 _ := hr.mono (by decide)
  have hr7 : Room 7 _ := hr.mono (by decide)
  refine ⟨_, (pss_cons (ps_asg (pv 0) (pg_tup rfl (pgs_cons (pg_name (i := 2) nd rfl (by first | exact .inl rfl | exact .inr rfl)) (pgs_cons (pg_name (i := 3) nd rfl (by first | exact .inl rfl | exact .inr rfl)) (pgs_cons (pg_name (i := 4) nd rfl (by first | exact .inl rfl | exact .inr rfl)) (pgs_cons (pg_name (i := 5) nd rfl (by first | exact .inl rfl | exact .inr rfl)) pgs_nil))))))
      (pss_cons (ps_for PassesOwn.never rfl (pi_list (pe_lst (pa_cons (pv 2) (pa_cons (pv 3) pa_nil))) : PI _ _ _ (iList K _)) (pg_name (i := 6) nd rfl (by first | exact .inl rfl | exact .inr rfl)) (pss_cons (ps_if (PW.pt (pw_or (pt_not (pt_val (pe_callB (r := rIsEv K) call_isEv (by rfl) A.n_isinstance (by decide +kernel) (pa_cons (pv 6) (pa_cons (pe_glob (v := .ref A.ZZ.C_FiveError) (by rfl) A.g_FiveError rfl) pa_nil))))) (pw_or1 (pt_not (pt_val (pe_callB (r := rIsEv K) call_isEv (by rfl) A.n_isinstance (by decide +kernel) (pa_cons (pv 6) (pa_cons (pe_bltn (v := .ty "ValueError") (by rfl) A.n_ValueError (by decide +kernel) rfl) pa_nil)))))))) pss_no pss_nil)
      (pss_cons (ps_if (pt_cmpR (r := rNeD K) (op_neD hr.units) (pe_lc (own := [("k", 8), ("is_one", 9)]) (g := gTup K 2 (gCons (gName 8) (gCons (gName 9) gNil))) rfl nd (pi_enum (by rfl) A.n_enumerate (pa_cons (pe_call (w__law_e_kinds (P := P) (w := w) A) hr1 (by rfl) A.g__law_e_kinds A.F__law_e_kinds.kp A.b__law_e_kinds .nil pass0 (pa_cons (pv 6) pa_nil)) pa_nil)) (blkOk_by (own := [("k", 8), ("is_one", 9)]) (N := N__law_e_right) (sc := defScope s__law_e_right) (by decide +kernel)) (fun _ _ _ _ _ => pg_tup rfl (pgs_cons (pg_name (i := 8) nd rfl (by first | exact .inl rfl | exact .inr rfl)) (pgs_cons (pg_name (i := 9) nd rfl (by first | exact .inl rfl | exact .inr rfl)) pgs_nil))) (fun _ _ _ _ _ => pts_one (pt_val (pv 9))) (fun _ _ _ _ _ => (pv 8))) (pe_lst (pa_cons (pv 1) pa_nil)) (nomark _)) pss_no pss_nil)
      (pss_cons (ps_set (i := 7) nd rfl (by first | exact .inl rfl | exact .inr rfl) (pe_alt (LamX.pe_lookC (i := 4) hr1 rfl (by first | exact .inl rfl | exact .inr rfl) (pa_cons (pv 6) pa_nil)) (LamX.pe_lookC2 (i := 4) hr1 rfl (by first | exact .inl rfl | exact .inr rfl) (pa_cons (pv 6) pa_nil))))
      (pss_one (ps_if (PW.pt (pw_or (pt_cmpR op_ne (pe_callB (r := T.rLen K) call_len_seq (by rfl) A.n_len (by decide +kernel) (pa_cons (pv 7) pa_nil)) (pe_callB (r := T.rLen K) call_len_seq (by rfl) A.n_len (by decide +kernel) (pa_cons (pv 5) pa_nil)) (nomark _)) (pw_or1 (pt_not (pt_val (pe_callB (r := rAll K) (cr_all rfl) (by rfl) A.n_all (by decide +kernel) (pa_cons (pe_lc (own := [("one", 10), ("other", 11)]) (g := gTup K 2 (gCons (gName 10) (gCons (gName 11) gNil))) rfl nd (pi_zip (by rfl) A.n_zip (pa_cons (pv 7) (pa_cons (pv 5) pa_nil))) (blkOk_by (own := [("one", 10), ("other", 11)]) (N := N__law_e_right) (sc := defScope s__law_e_right) (by decide +kernel)) (fun _ _ _ _ _ => pg_tup rfl (pgs_cons (pg_name (i := 10) nd rfl (by first | exact .inl rfl | exact .inr rfl)) (pgs_cons (pg_name (i := 11) nd rfl (by first | exact .inl rfl | exact .inr rfl)) pgs_nil))) (fun _ _ _ _ _ => pts_nil) (fun _ _ _ _ _ => (pe_call (w__law_very (P := P) (w := w) (base := base) A.zsame A.F__law_very A.F__law_same A.b__law_same A.g__law_same) hr7 (by rfl) A.g__law_very A.F__law_very.kp A.b__law_very .nil pass0 (pa_cons (pv 10) (pa_cons (pv 11) pa_nil))))) pa_nil))))))) pss_no pss_nil))))))
      (pss_one (ps_ret pe_bl)))), ?_⟩
  refine body_v h fun B args C r C' hK hP hS => ?_
  obtain ⟨v_row, v_at, res, rfl, rfl, g0, rfl, rfl⟩ := hS
  subst hK
  refine ss_setG (ev_var rfl) tg_row ?_
  obtain ⟨s61, h62, g63⟩ := bind_some g0
  refine ss_forO (js := [6]) h62 (fun (s1 : Unit) => [some (tv (v_row : T.Row)), some (tv (v_at : Int)), some (tv (v_row.a : EV)), some (tv (v_row.b : EV)), some (tv (v_row.l : Lk)), some (tv (v_row.due : (List (Vid D)))), none, none, none, none, none, none]) (fun (s1 : Unit) => []) (ei_list (ev_of (evn_lst (xs := ([v_row.a, v_row.b] : List EV)) (ea_cons (ev_var rfl) (ea_cons (ev_var rfl) ea_nil)) (szn (by show 2 ≤ 1000; decide))))) (.cons (.inr rfl) (.cons (.inr rfl) (.cons (.inr rfl) (.cons (.inr rfl) (.cons (.inr rfl) (.cons (.inr rfl) (.cons (.inl rfl) (.cons (.inl rfl) (.cons (.inl rfl) (.cons (.inl rfl) (.cons (.inl rfl) (.cons (.inl rfl) .nil)))))))))))) rfl ?_ ?_
  · intro s1 a3 s2 h4 g5
    refine ⟨_, tg_name, ?_⟩
    obtain ⟨b7, h8, g15⟩ := bind_some g5
    obtain ⟨b11, h12, g16⟩ := bind_some g15
    obtain ⟨u17, h18, g19⟩ := bind_some g16
    refine ss_if (et_orO h12 (et_not (et_B (ev_eq (ev_cb (ea_cons (ev_var rfl) (ea_cons ev_cls ea_nil)) (cs_isEv (fun _ _ _ h => h) (.own _) (A.kit _ (isF_in h8)).1 (A.kitF _ (isF_in h8)))) (isF_true h8).symm))) fun _ g13 => by
        obtain ⟨b9, h10, g14⟩ := bind_some g13
        exact et_is (et_not (et_B (ev_eq (ev_cb (ea_cons (ev_var rfl) (ea_cons ev_ty ea_nil)) (cs_isEv (fun _ _ _ h => h) (.ty _) (A.kit _ (isF_in h10)).1 (A.kitV _ (isF_in h10)))) (isF_true h10).symm))) (some_eq g14)) (fun c => (nchk h18 c).elim) fun _ => ?_
    refine ss_skip ?_
    obtain ⟨x20, h21, g32⟩ := bind_some g19
    obtain ⟨l30, h31, g33⟩ := bind_some g32
    obtain ⟨u34, h35, g36⟩ := bind_some g33
    refine ss_if (et_test (ev_op (ev_of (evn_lcL h31 (ei_enum (ea_cons (ev_of (evn_call (ea_cons (ev_var rfl) ea_nil) ⟨a3, _, rfl, rfl, h21, rfl, rfl⟩)) ea_nil) fun _ _ _ hf h => en_val hf h) (js := [8, 9]) (by decide) (fun a22 b24 _ h25 => ⟨_, tg_pair, fun _ m23 => et_is (et_B (ev_var rfl)) (some_eq h25), fun _ y26 h27 _ m23 => ev_eq (ev_var rfl) (some_eq h27)⟩))) (ev_of (evn_lst (xs := ([v_at] : List Int)) (ea_cons (ev_var rfl) ea_nil) (szn (by show 1 ≤ 1000; decide)))) (os_neD (by decide)))) (fun c => (nchk h35 c).elim) fun _ => ?_
    refine ss_skip ?_
    obtain ⟨x37, h38, g39⟩ := bind_some g36
    refine ss_set (ev_of (evn_lookO rfl (ea_cons (ev_var rfl) ea_nil) h38 A.flds)) ?_
    refine ss_end ?_
    obtain ⟨b53, h54, g57⟩ := bind_some g39
    obtain ⟨u58, h59, g60⟩ := bind_some g57
    refine ss_if (et_orO h54 (et_test (ev_op (ev_cb (ea_cons (ev_var rfl) ea_nil) (cs_len (ls_val))) (ev_cb (ea_cons (ev_var rfl) ea_nil) (cs_len (ls_val))) os_ne)) fun _ g55 => by
        obtain ⟨l50, h51, g56⟩ := bind_some g55
        exact et_is (et_not (et_B (ev_cb (ea_cons (ev_of (evn_lcL h51 (ei_zip (ea_cons (ev_var rfl) (ea_cons (ev_var rfl) ea_nil))) (js := [10, 11]) (by decide) (fun a40 b44 _ h45 => ⟨_, tg_pair, fun _ m41 => et_is et_yes (some_eq h45), fun _ y46 h47 _ m41 => by
          obtain ⟨b42, h43, g52⟩ := bind_some h47
          exact ev_eq (ev_eq (ev_call (ea_cons (ev_var rfl) (ea_cons (ev_var rfl) ea_nil)) (very_wit h43)) (veryO_true h43).symm) (some_eq g52)⟩))) ea_nil) (cs_all (ls_val))))) (some_eq g56)) (fun c => (nchk h59 c).elim) fun _ => ?_
    refine ss_skip ?_
    cases g60
    exact ss_goal (.cons (.inr rfl) (.cons (.inr rfl) (.cons (.inr rfl) (.cons (.inr rfl) (.cons (.inr rfl) (.cons (.inr rfl) (.cons (.inl rfl) (.cons (.inl rfl) (.cons (.inl rfl) (.cons (.inl rfl) (.cons (.inl rfl) (.cons (.inl rfl) .nil)))))))))))) .slnil
  · refine ss_end ?_
    refine ss_retS ?_
    cases g63
    exact ss_retVG ev_bl (.slnil) rfl
end K00
set_option Elab.async false
set_option linter.all false
set_option maxRecDepth 100000
set_option maxHeartbeats 4000000
set_option autoImplicit false
namespace K00
open PySem PySem.Spec PyProof.Rows L2 T
open PySem.W (Frag)
variable {P : Program} {w : World} {K : PySem.W.Frag} {mg : Str → Option Value} {base : Heap}
theorem w_law (A : Facts P K mg base) : FnOk P w K mg base CX0 (8 + 1) A.f_law A.fd_law ["script"] (SpV (S_law (ZZ := A.ZZ) A.P__law_e_first A.P__law_e_second A.P__law_e_third A.P__law_e_fourth) K) := by
  refine A.F_law.ok sc_law (len_v (fun args C r C' h => by obtain ⟨_, _, rfl, _⟩ := h; rfl)) (fun cdv AA outer s H vs Q E hr h => ?_)
  have nd := sc_law.nd
  have hr1 : Room 1 _ := hr.mono (by decide)
  have hr2 : Room 2 _ := hr.mono (by decide)
  have hr3 : Room 3 _ := hr.mono (by decide)
  have hr4 : Room 4 _ := hr.mono (by decide)
  have hr5 : Room 5 _ := hr.mono (by decide)
  have hr6 : Room 6 _ := hr.mono (by decide)
  have hr7 : Room 7 _ := hr.mono (by decide)
  have hr8 : Room 8 _ := hr.mono (by decide)
  refine ⟨_, (pss_cons (ps_for PassesOwn.never rfl (pi_range1 rfl A.n_range (pa_cons pe_int pa_nil)) (pg_name (i := 1) nd rfl (by first | exact .inl rfl | exact .inr rfl)) (pss_cons (ps_set (i := 2) nd rfl (by first | exact .inl rfl | exact .inr rfl) (pe_call (w__law_spring (P := P) (w := w) A) hr1 (by rfl) A.g__law_spring A.F__law_spring.kp A.b__law_spring .nil pass0 (pa_cons (pv 0) (pa_cons (pv 1) pa_nil))))
      (pss_cons (ps_par (i := 3) (j := 4) rfl nd rfl rfl (by decide) rfl rfl (pa_cons (pe_call (w__law_e_drawn (P := P) (w := w) A) hr3 (by rfl) A.g__law_e_drawn A.F__law_e_drawn.kp A.b__law_e_drawn .nil pass0 (pa_cons (pv 2) pa_nil)) (pa_cons (pe_call (w__law_e_drawn (P := P) (w := w) A) hr3 (by rfl) A.g__law_e_drawn A.F__law_e_drawn.kp A.b__law_e_drawn .nil pass0 (pa_cons (pv 2) pa_nil)) pa_nil)) rfl)
      (pss_cons (ps_set (i := 5) nd rfl (by first | exact .inl rfl | exact .inr rfl) (pe_op op_catL (pe_op op_catL (pe_op op_catL (pe_call (w__law_e_first (P := P) (w := w) A) hr2 (by rfl) A.g__law_e_first A.F__law_e_first.kp A.b__law_e_first .nil pass0 (pa_cons (pv 3) pa_nil)) (pe_call (w__law_e_second (P := P) (w := w) A) hr2 (by rfl) A.g__law_e_second A.F__law_e_second.kp A.b__law_e_second .nil pass0 (pa_cons (pv 3) pa_nil))) (pe_call (w__law_e_third (P := P) (w := w) A) hr2 (by rfl) A.g__law_e_third A.F__law_e_third.kp A.b__law_e_third .nil pass0 (pa_cons (pv 3) pa_nil))) (pe_call (w__law_e_fourth (P := P) (w := w) A) hr2 (by rfl) A.g__law_e_fourth A.F__law_e_fourth.kp A.b__law_e_fourth .nil pass0 (pa_cons (pv 3) (pa_cons (pv 4) pa_nil)))))
      (pss_cons (ps_for PassesOwn.never rfl (pi_enum (by rfl) A.n_enumerate (pa_cons (pv 5) pa_nil)) (pg_tup rfl (pgs_cons (pg_name (i := 6) nd rfl (by first | exact .inl rfl | exact .inr rfl)) (pgs_cons (pg_name (i := 7) nd rfl (by first | exact .inl rfl | exact .inr rfl)) pgs_nil))) (pss_one (ps_if (pt_not (pt_val (pe_call (w__law_e_right (P := P) (w := w) A) hr8 (by rfl) A.g__law_e_right A.F__law_e_right.kp A.b__law_e_right .nil pass0 (pa_cons (pv 7) (pa_cons (pv 6) pa_nil))))) pss_no pss_nil)))
      (pss_cons (ps_set (i := 8) nd rfl (by first | exact .inl rfl | exact .inr rfl) (pe_op op_catL (pe_op op_catL (pe_op op_catL (pe_call (w__law_e_first (P := P) (w := w) A) hr2 (by rfl) A.g__law_e_first A.F__law_e_first.kp A.b__law_e_first .nil pass0 (pa_cons (pv 4) pa_nil)) (pe_call (w__law_e_second (P := P) (w := w) A) hr2 (by rfl) A.g__law_e_second A.F__law_e_second.kp A.b__law_e_second .nil pass0 (pa_cons (pv 4) pa_nil))) (pe_call (w__law_e_third (P := P) (w := w) A) hr2 (by rfl) A.g__law_e_third A.F__law_e_third.kp A.b__law_e_third .nil pass0 (pa_cons (pv 4) pa_nil))) (pe_call (w__law_e_fourth (P := P) (w := w) A) hr2 (by rfl) A.g__law_e_fourth A.F__law_e_fourth.kp A.b__law_e_fourth .nil pass0 (pa_cons (pv 4) (pa_cons (pv 3) pa_nil)))))
      (pss_one (ps_for PassesOwn.never rfl (pi_enum (by rfl) A.n_enumerate (pa_cons (pv 8) pa_nil)) (pg_tup rfl (pgs_cons (pg_name (i := 6) nd rfl (by first | exact .inl rfl | exact .inr rfl)) (pgs_cons (pg_name (i := 7) nd rfl (by first | exact .inl rfl | exact .inr rfl)) pgs_nil))) (pss_one (ps_if (PW.pt (pw_or (pt_not (pt_val (pe_call (w__law_e_right (P := P) (w := w) A) hr8 (by rfl) A.g__law_e_right A.F__law_e_right.kp A.b__law_e_right .nil pass0 (pa_cons (pv 7) (pa_cons (pv 6) pa_nil))))) (pw_or1 (pt_not (pt_val (pe_call (w__law_e_right (P := P) (w := w) A) hr8 (by rfl) A.g__law_e_right A.F__law_e_right.kp A.b__law_e_right .nil pass0 (pa_cons (pe_ix (r := rIxL K) ix_list (pv 5) (pv 6) (fun _ _ => rfl)) (pa_cons (pv 6) pa_nil)))))))) pss_no pss_nil))))))))))
      (pss_cons (ps_set (i := 9) nd rfl (by first | exact .inl rfl | exact .inr rfl) pe_int)
      (pss_cons (ps_if (pt_cmpR (r := rNeD K) (op_neD hr.units) (pe_lc (own := [("k", 10), ("is_one", 11)]) (g := gTup K 2 (gCons (gName 10) (gCons (gName 11) gNil))) rfl nd (pi_enum (by rfl) A.n_enumerate (pa_cons (pe_call (w__law_e_kinds (P := P) (w := w) A) hr1 (by rfl) A.g__law_e_kinds A.F__law_e_kinds.kp A.b__law_e_kinds .nil pass0 (pa_cons (pe_err0 A.E_NothingDone hr1 (by rfl)) pa_nil)) pa_nil)) (blkOk_by (own := [("k", 10), ("is_one", 11)]) (N := N_law) (sc := defScope s_law) (by decide +kernel)) (fun _ _ _ _ _ => pg_tup rfl (pgs_cons (pg_name (i := 10) nd rfl (by first | exact .inl rfl | exact .inr rfl)) (pgs_cons (pg_name (i := 11) nd rfl (by first | exact .inl rfl | exact .inr rfl)) pgs_nil))) (fun _ _ _ _ _ => pts_one (pt_val (pv 11))) (fun _ _ _ _ _ => (pv 10))) (pe_lst (pa_cons (pv 9) pa_nil)) (nomark _)) pss_no pss_nil)
      (pss_cons (ps_if (pt_cmpR (r := rNeD K) (op_neD hr.units) (pe_lc (own := [("k", 10), ("is_one", 11)]) (g := gTup K 2 (gCons (gName 10) (gCons (gName 11) gNil))) rfl nd (pi_enum (by rfl) A.n_enumerate (pa_cons (pe_call (w__law_e_kinds (P := P) (w := w) A) hr1 (by rfl) A.g__law_e_kinds A.F__law_e_kinds.kp A.b__law_e_kinds .nil pass0 (pa_cons (pe_err0 A.E_NothingUndone hr1 (by rfl)) pa_nil)) pa_nil)) (blkOk_by (own := [("k", 10), ("is_one", 11)]) (N := N_law) (sc := defScope s_law) (by decide +kernel)) (fun _ _ _ _ _ => pg_tup rfl (pgs_cons (pg_name (i := 10) nd rfl (by first | exact .inl rfl | exact .inr rfl)) (pgs_cons (pg_name (i := 11) nd rfl (by first | exact .inl rfl | exact .inr rfl)) pgs_nil))) (fun _ _ _ _ _ => pts_one (pt_val (pv 11))) (fun _ _ _ _ _ => (pv 10))) (pe_lst (pa_cons (pe_op op_add (pv 9) pe_int) pa_nil)) (nomark _)) pss_no pss_nil)
      (pss_one (ps_ret (pe_and (pe_callB (r := rIsEv K) call_isEv (by rfl) A.n_isinstance (by decide +kernel) (pa_cons (pe_err0 A.E_NothingDone hr1 (by rfl)) (pa_cons (pe_glob (v := .ref A.ZZ.C_FiveError) (by rfl) A.g_FiveError rfl) pa_nil))) (pe_one (pe_callB (r := rIsEv K) call_isEv (by rfl) A.n_isinstance (by decide +kernel) (pa_cons (pe_err0 A.E_NothingUndone hr1 (by rfl)) (pa_cons (pe_glob (v := .ref A.ZZ.C_FiveError) (by rfl) A.g_FiveError rfl) pa_nil))))))))))), ?_⟩
  refine body_v h fun B args C r C' hK hP hS => ?_
  obtain ⟨v_script, res, rfl, rfl, g0, rfl, rfl⟩ := hS
  subst hK
  obtain ⟨r1, h2, g3⟩ := bind_some g0
  obtain ⟨s108, h109, g110⟩ := bind_some g3
  refine ss_forO (js := [1]) h109 (fun (s4 : Unit) => [some (tv (v_script : Sq)), none, none, none, none, none, none, none, none, none, none, none]) (fun (s4 : Unit) => [(A.P__law_e_first, Ct.tab "_law_e_first.<locals>.<lambda>"), (A.P__law_e_second, Ct.tab "_law_e_second.<locals>.<lambda>"), (A.P__law_e_third, Ct.tab "_law_e_third.<locals>.<lambda>"), (A.P__law_e_fourth, Ct.tab "_law_e_fourth.<locals>.<lambda>")]) (ei_rngO1 (ea_cons ev_int ea_nil) h2) (.cons (.inr rfl) (.cons (.inl rfl) (.cons (.inl rfl) (.cons (.inl rfl) (.cons (.inl rfl) (.cons (.inl rfl) (.cons (.inl rfl) (.cons (.inl rfl) (.cons (.inl rfl) (.cons (.inl rfl) (.cons (.inl rfl) (.cons (.inl rfl) .nil)))))))))))) rfl ?_ ?_
  · intro s4 a6 s5 h7 g8
    refine ⟨_, tg_name, ?_⟩
    obtain ⟨x10, h11, g12⟩ := bind_some g8
    refine ss_setN (evn_call (ea_cons (ev_var rfl) (ea_cons (ev_var rfl) ea_nil)) ⟨v_script, a6, _, rfl, rfl, h11, rfl, rfl⟩) fun p13 hp_p13 => ?_
    obtain ⟨x14, h15, g18⟩ := bind_some g12
    obtain ⟨x16, h17, g19⟩ := bind_some g18
    refine ss_parX (eax_cons (ev_call1 (k := 0) (ea_cons (ev_var rfl) ea_nil) rfl ⟨p13, x10, x14.1, x14.2, rfl, rfl, h15, rfl, rfl⟩) (eax_cons (ev_call1 (k := 0) (ea_cons (ev_var rfl) ea_nil) rfl ⟨p13, x14.2, x16.1, x16.2, rfl, rfl, h17, rfl, rfl⟩) eax_nil)) (fun _ _ _ hk106 => ?_) (fun _ _ hk106 => by obtain ⟨_, rfl, _, rfl, rfl, rfl⟩ := hk106; rfl)
    obtain ⟨_, e107, hk106⟩ := hk106
    cases e107
    obtain ⟨_, e107, hk106⟩ := hk106
    cases e107
    obtain ⟨_, rfl⟩ := hk106
    refine ss_vid (i := 3) rfl fun vd20 => ?_
    have g21 := chkV_some g19 vd20
    refine ss_vid (i := 4) rfl fun vd22 => ?_
    have g23 := chkV_some g21 vd22
    obtain ⟨x24, h25, g38⟩ := bind_some g23
    obtain ⟨x26, h27, g39⟩ := bind_some g38
    obtain ⟨x28, h29, g40⟩ := bind_some g39
    obtain ⟨x30, h31, g41⟩ := bind_some g40
    obtain ⟨x32, h33, g42⟩ := bind_some g41
    obtain ⟨x34, h35, g43⟩ := bind_some g42
    obtain ⟨x36, h37, g44⟩ := bind_some g43
    refine ss_set (ev_of (evn_eq (evn_op (ev_of (evn_eq (evn_op (ev_of (evn_eq (evn_op (ev_of (evn_call1 (k := 1) (ea_cons (ev_var rfl) ea_nil) rfl ⟨(Vid.mk vd20 x14.1), _, rfl, rfl, h25, rfl, rfl⟩)) (ev_of (evn_call1 (k := 2) (ea_cons (ev_var rfl) ea_nil) rfl ⟨(Vid.mk vd20 x14.1), _, rfl, rfl, h27, rfl, rfl⟩)) (on_cat (ls_val) (ls_val) (catO_some h29).2)) (catO_some h29).1.symm)) (ev_of (evn_call1 (k := 3) (ea_cons (ev_var rfl) ea_nil) rfl ⟨(Vid.mk vd20 x14.1), _, rfl, rfl, h31, rfl, rfl⟩)) (on_cat (ls_val) (ls_val) (catO_some h33).2)) (catO_some h33).1.symm)) (ev_of (evn_call1 (k := 4) (ea_cons (ev_var rfl) (ea_cons (ev_var rfl) ea_nil)) rfl ⟨(Vid.mk vd20 x14.1), (Vid.mk vd22 x16.1), _, rfl, rfl, h35, rfl, rfl⟩)) (on_cat (ls_val) (ls_val) (catO_some h37).2)) (catO_some h37).1.symm)) ?_
    obtain ⟨s57, h58, g59⟩ := bind_some g44
    refine ss_forO (js := [6, 7]) h58 (fun (s45 : Unit) => [some (tv (v_script : Sq)), some (tv (a6 : Int)), some (tv (Ptr.mk p13)), some (tv ((Vid.mk vd20 x14.1) : (Vid D))), some (tv ((Vid.mk vd22 x16.1) : (Vid D))), some (tv (x36 : (List T.Row))), none, none, none, none, none, none]) (fun (s45 : Unit) => [(p13, Ct.lst (x16.2 : (List Int))), (A.P__law_e_first, Ct.tab "_law_e_first.<locals>.<lambda>"), (A.P__law_e_second, Ct.tab "_law_e_second.<locals>.<lambda>"), (A.P__law_e_third, Ct.tab "_law_e_third.<locals>.<lambda>"), (A.P__law_e_fourth, Ct.tab "_law_e_fourth.<locals>.<lambda>")]) (ei_enum (ea_cons (ev_var rfl) ea_nil) fun _ _ _ hf h => en_val hf h) (.cons (.inr rfl) (.cons (.inr rfl) (.cons (.inr rfl) (.cons (.inr rfl) (.cons (.inr rfl) (.cons (.inr rfl) (.cons (.inl rfl) (.cons (.inl rfl) (.cons (.inl rfl) (.cons (.inl rfl) (.cons (.inl rfl) (.cons (.inl rfl) .nil)))))))))))) rfl ?_ ?_
    · intro s45 a47 s46 h48 g49
      refine ⟨_, tg_pair, ?_⟩
      refine ss_end ?_
      obtain ⟨x51, h52, g53⟩ := bind_some g49
      obtain ⟨u54, h55, g56⟩ := bind_some g53
      refine ss_if (et_not (et_B (ev_call (ea_cons (ev_var rfl) (ea_cons (ev_var rfl) ea_nil)) ⟨a47.2, a47.1, _, rfl, rfl, h52, rfl, rfl⟩))) (fun c => (nchk h55 c).elim) fun _ => ?_
      refine ss_skip ?_
      cases g56
      exact ss_goal (.cons (.inr rfl) (.cons (.inr rfl) (.cons (.inr rfl) (.cons (.inr rfl) (.cons (.inr rfl) (.cons (.inr rfl) (.cons (.inl rfl) (.cons (.inl rfl) (.cons (.inl rfl) (.cons (.inl rfl) (.cons (.inl rfl) (.cons (.inl rfl) .nil)))))))))))) (.cons₂ _ (.cons₂ _ (.cons₂ _ (.cons₂ _ (.cons₂ _ .slnil)))))
    · obtain ⟨x60, h61, g74⟩ := bind_some g59
      obtain ⟨x62, h63, g75⟩ := bind_some g74
      obtain ⟨x64, h65, g76⟩ := bind_some g75
      obtain ⟨x66, h67, g77⟩ := bind_some g76
      obtain ⟨x68, h69, g78⟩ := bind_some g77
      obtain ⟨x70, h71, g79⟩ := bind_some g78
      obtain ⟨x72, h73, g80⟩ := bind_some g79
      refine ss_set (ev_of (evn_eq (evn_op (ev_of (evn_eq (evn_op (ev_of (evn_eq (evn_op (ev_of (evn_call1 (k := 1) (ea_cons (ev_var rfl) ea_nil) rfl ⟨(Vid.mk vd22 x16.1), _, rfl, rfl, h61, rfl, rfl⟩)) (ev_of (evn_call1 (k := 2) (ea_cons (ev_var rfl) ea_nil) rfl ⟨(Vid.mk vd22 x16.1), _, rfl, rfl, h63, rfl, rfl⟩)) (on_cat (ls_val) (ls_val) (catO_some h65).2)) (catO_some h65).1.symm)) (ev_of (evn_call1 (k := 3) (ea_cons (ev_var rfl) ea_nil) rfl ⟨(Vid.mk vd22 x16.1), _, rfl, rfl, h67, rfl, rfl⟩)) (on_cat (ls_val) (ls_val) (catO_some h69).2)) (catO_some h69).1.symm)) (ev_of (evn_call1 (k := 4) (ea_cons (ev_var rfl) (ea_cons (ev_var rfl) ea_nil)) rfl ⟨(Vid.mk vd22 x16.1), (Vid.mk vd20 x14.1), _, rfl, rfl, h71, rfl, rfl⟩)) (on_cat (ls_val) (ls_val) (catO_some h73).2)) (catO_some h73).1.symm)) ?_
      refine ss_end ?_
      obtain ⟨s103, h104, g105⟩ := bind_some g80
      refine ss_forO (js := [6, 7]) h104 (fun (s81 : Unit) => [some (tv (v_script : Sq)), some (tv (a6 : Int)), some (tv (Ptr.mk p13)), some (tv ((Vid.mk vd20 x14.1) : (Vid D))), some (tv ((Vid.mk vd22 x16.1) : (Vid D))), some (tv (x36 : (List T.Row))), none, none, some (tv (x72 : (List T.Row))), none, none, none]) (fun (s81 : Unit) => [(p13, Ct.lst (x16.2 : (List Int))), (A.P__law_e_first, Ct.tab "_law_e_first.<locals>.<lambda>"), (A.P__law_e_second, Ct.tab "_law_e_second.<locals>.<lambda>"), (A.P__law_e_third, Ct.tab "_law_e_third.<locals>.<lambda>"), (A.P__law_e_fourth, Ct.tab "_law_e_fourth.<locals>.<lambda>")]) (ei_enum (ea_cons (ev_var rfl) ea_nil) fun _ _ _ hf h => en_val hf h) (.cons (.inr rfl) (.cons (.inr rfl) (.cons (.inr rfl) (.cons (.inr rfl) (.cons (.inr rfl) (.cons (.inr rfl) (.cons (.inl rfl) (.cons (.inl rfl) (.cons (.inr rfl) (.cons (.inl rfl) (.cons (.inl rfl) (.cons (.inl rfl) .nil)))))))))))) rfl ?_ ?_
      · intro s81 a83 s82 h84 g85
        refine ⟨_, tg_pair, ?_⟩
        refine ss_end ?_
        obtain ⟨x87, h88, g98⟩ := bind_some g85
        obtain ⟨b93, h94, g99⟩ := bind_some g98
        obtain ⟨u100, h101, g102⟩ := bind_some g99
        refine ss_if (et_orO h94 (et_not (et_B (ev_call (ea_cons (ev_var rfl) (ea_cons (ev_var rfl) ea_nil)) ⟨a83.2, a83.1, _, rfl, rfl, h88, rfl, rfl⟩))) fun _ g95 => by
        obtain ⟨x89, h90, g96⟩ := bind_some g95
        obtain ⟨x91, h92, g97⟩ := bind_some g96
        exact et_is (et_not (et_B (ev_call (ea_cons (ev_op (ev_var rfl) (ev_var rfl) (os_ix (ls_val) h90)) (ea_cons (ev_var rfl) ea_nil)) ⟨x89, a83.1, _, rfl, rfl, h92, rfl, rfl⟩))) (some_eq g97)) (fun c => (nchk h101 c).elim) fun _ => ?_
        refine ss_skip ?_
        cases g102
        exact ss_goal (.cons (.inr rfl) (.cons (.inr rfl) (.cons (.inr rfl) (.cons (.inr rfl) (.cons (.inr rfl) (.cons (.inr rfl) (.cons (.inl rfl) (.cons (.inl rfl) (.cons (.inr rfl) (.cons (.inl rfl) (.cons (.inl rfl) (.cons (.inl rfl) .nil)))))))))))) (.cons₂ _ (.cons₂ _ (.cons₂ _ (.cons₂ _ (.cons₂ _ .slnil)))))
      · cases g105
        exact ss_goal (.cons (.inr rfl) (.cons (.inl rfl) (.cons (.inl rfl) (.cons (.inl rfl) (.cons (.inl rfl) (.cons (.inl rfl) (.cons (.inl rfl) (.cons (.inl rfl) (.cons (.inl rfl) (.cons (.inl rfl) (.cons (.inl rfl) (.cons (.inl rfl) .nil)))))))))))) (.cons _ (.cons₂ _ (.cons₂ _ (.cons₂ _ (.cons₂ _ .slnil)))))
  · obtain ⟨many111, h112, g113⟩ := bind_some g110
    refine ss_set (ev_eq ev_int (some_eq h112)) ?_
    obtain ⟨x114, h115, g126⟩ := bind_some g113
    obtain ⟨l124, h125, g127⟩ := bind_some g126
    obtain ⟨u128, h129, g130⟩ := bind_some g127
    refine ss_if (et_test (ev_op (ev_of (evn_lcL h125 (ei_enum (ea_cons (ev_of (evn_call (ea_cons ev_err0 ea_nil) ⟨(EV.mk A.ZZ.C_NothingDone []), _, rfl, rfl, h115, rfl, rfl⟩)) ea_nil) fun _ _ _ hf h => en_val hf h) (js := [10, 11]) (by decide) (fun a116 b118 _ h119 => ⟨_, tg_pair, fun _ m117 => et_is (et_B (ev_var rfl)) (some_eq h119), fun _ y120 h121 _ m117 => ev_eq (ev_var rfl) (some_eq h121)⟩))) (ev_of (evn_lst (xs := ([many111] : List Int)) (ea_cons (ev_var rfl) ea_nil) (szn (by show 1 ≤ 1000; decide)))) (os_neD (by decide)))) (fun c => (nchk h129 c).elim) fun _ => ?_
    refine ss_skip ?_
    obtain ⟨x131, h132, g143⟩ := bind_some g130
    obtain ⟨l141, h142, g144⟩ := bind_some g143
    obtain ⟨u145, h146, g147⟩ := bind_some g144
    refine ss_if (et_test (ev_op (ev_of (evn_lcL h142 (ei_enum (ea_cons (ev_of (evn_call (ea_cons ev_err0 ea_nil) ⟨(EV.mk A.ZZ.C_NothingUndone []), _, rfl, rfl, h132, rfl, rfl⟩)) ea_nil) fun _ _ _ hf h => en_val hf h) (js := [10, 11]) (by decide) (fun a133 b135 _ h136 => ⟨_, tg_pair, fun _ m134 => et_is (et_B (ev_var rfl)) (some_eq h136), fun _ y137 h138 _ m134 => ev_eq (ev_var rfl) (some_eq h138)⟩))) (ev_of (evn_lst (xs := ([(many111 + (1 : Int))] : List Int)) (ea_cons (ev_op (ev_var rfl) ev_int os_add) ea_nil) (szn (by show 1 ≤ 1000; decide)))) (os_neD (by decide)))) (fun c => (nchk h146 c).elim) fun _ => ?_
    refine ss_skip ?_
    refine ss_end ?_
    refine ss_retS ?_
    obtain ⟨b148, h149, g156⟩ := bind_some g147
    obtain ⟨b152, h153, g157⟩ := bind_some g156
    cases g157
    exact ss_retVG (ev_andO h153 (ev_eq (ev_cb (ea_cons ev_err0 (ea_cons ev_cls ea_nil)) (cs_isEv (fun _ _ _ h => h) (.own _) (A.kit _ (isF_in h149)).1 (A.kitF _ (isF_in h149)))) (isF_true h149).symm) fun _ g154 => by
        obtain ⟨b150, h151, g155⟩ := bind_some g154
        exact ev_eq (ev_eq (ev_cb (ea_cons ev_err0 (ea_cons ev_cls ea_nil)) (cs_isEv (fun _ _ _ h => h) (.own _) (A.kit _ (isF_in h151)).1 (A.kitF _ (isF_in h151)))) (isF_true h151).symm) (some_eq g155)) ((.cons₂ _ (.cons₂ _ (.cons₂ _ (.cons₂ _ .slnil))))) rfl
end K00
set_option Elab.async false
set_option linter.all false
set_option maxRecDepth 100000
set_option maxHeartbeats 4000000
set_option autoImplicit false
namespace K00
open PySem PySem.Spec PyProof.Rows L2 T
/-! ### draws -/
theorem mulO_l {i j : Int} (h1 : -(2 ^ 64) < i) (h2 : i < 2 ^ 64) : mulO i j = some (i * j) := if_pos (.inl ⟨h1, h2⟩)
theorem mulO_r {i j : Int} (h1 : -(2 ^ 64) < j) (h2 : j < 2 ^ 64) : mulO i j = some (i * j) := if_pos (.inr ⟨h1, h2⟩)
theorem modO_p {i j : Int} (h : 0 < j) : modO i j = some (i % j) := if_pos h
theorem fdivWO_p {i j : Int} (h : 0 < j) (h2 : j.natAbs < 2 ^ 200) : fdivWO i j = some (i / j) := if_pos (wide_div h h2 (by decide) (by decide))
theorem powO_p {i j : Int} (h : 0 ≤ j) (h2 : j ≤ 1000000) (h3 : i.natAbs < 2 ^ 64) : powO i j = some (i ^ j.toNat) := if_pos ⟨h, h2, h3⟩
/-- a spring that was drawn from at most k times without its great cell -/
def Spr (s : List Int) (k : Int) : Prop := ∃ a b c, s = [a, b, c] ∧ 0 ≤ a ∧ 0 ≤ b ∧ b < 2147483647 ∧ 0 ≤ c ∧ c ≤ k
theorem Spr.mono {s : List Int} {k n : Int} (h : Spr s k) (hk : k ≤ n) : Spr s n := by
  obtain ⟨a, b, c, e, h1, h2, h3, h4, h5⟩ := h
  exact ⟨a, b, c, e, h1, h2, h3, h4, by omega⟩
theorem spring_ok (sc : Sq) {t : Int} (h0 : 0 ≤ t) (h1 : t < 3) : ∃ s, m__law_spring sc t = some s ∧ Spr s 0 := by
  obtain ⟨cell, e1⟩ : ∃ cell, (if (decide (t < (sc.l.length : Int))) = true then (L2.atI sc.l t).bind fun x1 =>
      some x1 else (mulO (7 : Int) t).bind fun x3 =>
      some (x3 + (sc.l.length : Int))) = some cell := by
    by_cases h : t < (sc.l.length : Int)
    · rw [if_pos (decide_eq_true h)]
      unfold L2.atI L2.ixN
      rw [if_pos h0, if_pos h, Option.bind_some, List.getElem?_eq_getElem (by omega)]
      exact ⟨_, rfl⟩
    · rw [if_neg (by simpa using h), mulO_l (by decide) (by decide)]
      exact ⟨_, rfl⟩
  obtain ⟨mix, e2, _⟩ := foldO_ok (f := fun (s20 : Int) (a22 : (Int × Int)) =>
    (mulO s20 (69069 : Int)).bind fun x26 =>
    (mulO (5 : Int) a22.1).bind fun x28 =>
    (modO (((x26 + a22.2) + x28) + (1 : Int)) (2147483629 : Int)).bind fun x30 =>
    some x30) (xs := enumL 0 (cutL sc.l none (some (63 : Int)))) (s := 1009 + 97 * t) (fun _ _ => True) trivial (by
      intro p a s _ _
      exact ⟨_, by rw [mulO_r (by decide) (by decide), Option.bind_some, mulO_l (by decide) (by decide), Option.bind_some, modO_p (by decide), Option.bind_some], trivial⟩)
  refine ⟨[if 1000000000000000000 ≤ cell then cell else 0, (mix + cell * 31) % 2147483647, 0], ?_, ⟨_, _, _, rfl, ?_, Int.emod_nonneg _ (by decide), Int.emod_lt_of_pos _ (by decide), by decide, by decide⟩⟩
  · unfold m__law_spring
    rw [e1, Option.bind_some, mulO_l (by decide) (by decide), Option.bind_some, Option.bind_some, e2, Option.bind_some, powO_p (by decide) (by decide) (by decide), Option.bind_some]
    have e3 : (10 : Int) ^ (18 : Int).toNat = 1000000000000000000 := by decide
    rw [e3]
    by_cases h : (1000000000000000000 : Int) ≤ cell
    · rw [if_pos (decide_eq_true h), if_pos h, Option.bind_some, mulO_r (by decide) (by decide), Option.bind_some, modO_p (by decide)]
      rfl
    · rw [if_neg (by simpa using h), if_neg h, Option.bind_some, mulO_r (by decide) (by decide), Option.bind_some, modO_p (by decide)]
      rfl
  · split <;> omega
theorem draw_ok {s : List Int} {k many : Int} (hs : Spr s k) (hk : k ≤ 1000) (hm : 0 < many) (hm2 : many.natAbs < 2 ^ 200) : ∃ d s', m__law_draw s many = some (d, s') ∧ 0 ≤ d ∧ d < many ∧ Spr s' (k + 1) := by
  obtain ⟨a, b, c, rfl, ha, hb, hb2, hc, hck⟩ := hs
  unfold m__law_draw
  have g0 : L2.atI [a, b, c] (0 : Int) = some a := rfl
  have g2 : L2.atI [a, b, c] (2 : Int) = some c := rfl
  have s0 : ∀ x, setO [a, b, c] (0 : Int) x = some [x, b, c] := fun _ => rfl
  have s2 : ∀ x, setO [a, b, c] (2 : Int) x = some [a, b, x] := fun _ => rfl
  rw [g0, Option.bind_some]
  by_cases h : 0 < a
  · rw [if_pos (decide_eq_true h), Option.bind_some, modO_p hm, Option.bind_some, Option.bind_some, fdivWO_p hm hm2, Option.bind_some, s0, Option.bind_some]
    exact ⟨_, _, rfl, Int.emod_nonneg _ (by omega), Int.emod_lt_of_pos _ hm, _, _, _, rfl, Int.ediv_nonneg ha (by omega), hb, hb2, hc, by omega⟩
  · have g1' : L2.atI [a, b, c + 1] (1 : Int) = some b := rfl
    have g2' : L2.atI [a, b, c + 1] (2 : Int) = some (c + 1) := rfl
    rw [if_neg (by simpa using h), g2, Option.bind_some, s2, Option.bind_some, g1', Option.bind_some, g2', Option.bind_some, mulO_l (by decide) (by decide), Option.bind_some, powO_p (by decide) (by decide) (by omega), Option.bind_some, modO_p (by decide), Option.bind_some]
    have m1 := Int.emod_nonneg ((b + 6364137 * (c + 1) + 1442695) ^ (3 : Int).toNat) (show (2147483647 : Int) ≠ 0 by decide)
    have m2 := Int.emod_lt_of_pos ((b + 6364137 * (c + 1) + 1442695) ^ (3 : Int).toNat) (show (0 : Int) < 2147483647 by decide)
    generalize (b + 6364137 * (c + 1) + 1442695) ^ (3 : Int).toNat % 2147483647 = mixed at m1 m2 ⊢
    rw [mulO_r (by decide) (by decide), Option.bind_some, Option.bind_some, mulO_l (by decide) (by decide), Option.bind_some, powO_p (by decide) (by decide) (by omega), Option.bind_some, modO_p (by decide), Option.bind_some, fdivWO_p (by decide) (by decide), Option.bind_some, modO_p hm, Option.bind_some]
    exact ⟨_, _, rfl, Int.emod_nonneg _ (by omega), Int.emod_lt_of_pos _ hm, _, _, _, rfl, ha, hb, hb2, by omega, by omega⟩
theorem pick_ok {α : Type} {s : List Int} {k : Int} {xs : List α} (hs : Spr s k) (hk : k ≤ 1000) (h0 : 0 < xs.length) (h1 : xs.length < 1000) : ∃ x s', m__law_pick s xs = some (x, s') ∧ x ∈ xs ∧ Spr s' (k + 1) := by
  obtain ⟨d, s', e, d0, d1, hs'⟩ := draw_ok (many := (xs.length : Int)) hs hk (by omega) (by omega)
  unfold m__law_pick
  rw [e, Option.bind_some]
  have e2 : L2.atI xs d = xs[d.toNat]? := by
    unfold L2.atI L2.ixN
    rw [if_pos d0, if_pos d1]
    rfl
  have hlt : d.toNat < xs.length := by omega
  refine ⟨xs[d.toNat], s', ?_, List.getElem_mem hlt, hs'⟩
  show (L2.atI xs d).bind _ = _
  rw [e2, List.getElem?_eq_getElem hlt]
  rfl
/-- so many drawn numbers -/
theorem many_ok {m : Int} (hm : 0 < m) (hm2 : m < 1000) : ∀ (xs : List Int) {s : List Int} {k : Int}, Spr s k → k + xs.length ≤ 1000 → ∃ ys s', lcS (fun (s41 : (List Int)) (a40 : Int) => (m__law_draw s41 m).bind fun x44 =>
    some (x44.1, x44.2)) s xs = some (ys, s') ∧ ys.length = xs.length ∧ Spr s' (k + xs.length)
  | [], s, k, hs, hk => ⟨[], s, rfl, rfl, hs.mono (by simp)⟩
  | x :: xs, s, k, hs, hk => by
    rw [List.length_cons] at hk
    obtain ⟨d, s1, e, _, _, hs1⟩ := draw_ok (many := m) hs (by omega) hm (by omega)
    obtain ⟨ys, s2, e2, hl, hs2⟩ := many_ok hm hm2 xs hs1 (by omega)
    refine ⟨d :: ys, s2, ?_, by rw [List.length_cons, List.length_cons, hl], hs2.mono (by rw [List.length_cons]; omega)⟩
    show ((m__law_draw s m).bind _).bind _ = _
    rw [e, Option.bind_some, Option.bind_some]
    show (lcS _ s1 xs).bind _ = _
    rw [e2]
    rfl
theorem manyL_ok {m n : Int} (hm : 0 < m) (hm2 : m < 1000) (h0 : 0 ≤ n) (h1 : n < 10) {s : List Int} {k : Int} (hs : Spr s k) (hk : k ≤ 900) : ∃ ys s', lcSL (fun (s41 : (List Int)) (a40 : Int) => (m__law_draw s41 m).bind fun x44 =>
    some (x44.1, x44.2)) s (rng 0 n) = some (ys, s') ∧ ys.length < 10 ∧ Spr s' (k + 10) := by
  have hl : (rng 0 n).length < 10 := by rw [rng_length]; omega
  obtain ⟨ys, s', e, h2, h3⟩ := many_ok hm hm2 (rng 0 n) hs (by omega)
  refine ⟨ys, s', ?_, by omega, h3.mono (by omega)⟩
  unfold lcSL
  rw [e, Option.bind_some, if_pos (by rw [sizeLine_eq]; show ys.length ≤ _; omega)]
/-- .. with "v" beside each -/
theorem manyP_ok {m : Int} (hm : 0 < m) (hm2 : m < 1000) : ∀ (xs : List Int) {s : List Int} {k : Int}, Spr s k → k + xs.length ≤ 1000 → ∃ ys s', lcS (fun (s41 : (List Int)) (a40 : Int) => (m__law_draw s41 m).bind fun x44 =>
    some ((x44.1, (Str.ofString "v")), x44.2)) s xs = some (ys, s') ∧ ys.length = xs.length ∧ Spr s' (k + xs.length)
  | [], s, k, hs, hk => ⟨[], s, rfl, rfl, hs.mono (by simp)⟩
  | x :: xs, s, k, hs, hk => by
    rw [List.length_cons] at hk
    obtain ⟨d, s1, e, _, _, hs1⟩ := draw_ok (many := m) hs (by omega) hm (by omega)
    obtain ⟨ys, s2, e2, hl, hs2⟩ := manyP_ok hm hm2 xs hs1 (by omega)
    refine ⟨(d, (Str.ofString "v")) :: ys, s2, ?_, by rw [List.length_cons, List.length_cons, hl], hs2.mono (by rw [List.length_cons]; omega)⟩
    show ((m__law_draw s m).bind _).bind _ = _
    rw [e, Option.bind_some, Option.bind_some]
    show (lcS _ s1 xs).bind _ = _
    rw [e2]
    rfl
theorem dOf_length {κ α : Type} [DecidableEq κ] : ∀ (xs acc : List (κ × α)), (xs.foldl (fun acc p => dput acc p.1 p.2) acc).length ≤ acc.length + xs.length
  | [], acc => by simp
  | x :: xs, acc => by
    have h1 := dOf_length xs (dput acc x.1 x.2)
    have h2 := dput_length (kvs := acc) (k := x.1) (v := x.2)
    rw [List.foldl_cons, List.length_cons]
    omega
theorem very_ints {ys : List Int} (h : ys.length < 10) : veryP (AsD.toD ys) = true := by
  show veryP (.lst (ys.map AsD.toD)) = true
  simp only [veryP, List.length_map]
  exact decide_eq_true (by omega)
theorem nodAll_ints : ∀ ys : List Int, D.nodAll (ys.map AsD.toD) = true
  | [] => rfl
  | y :: ys => by
    rw [List.map_cons, D.nodAll, nodAll_ints ys]
    show (D.nod (.int y) && true) = true
    simp [D.nod]
theorem dpAll_ints : ∀ ys : List Int, D.dpAll (ys.map AsD.toD) = 0
  | [] => rfl
  | y :: ys => by
    rw [List.map_cons, D.dpAll, dpAll_ints ys]
    show max (D.dp (.int y)) 0 = 0
    simp [D.dp]
theorem very_tup {ys : List Int} (h : ys.length < 10) : veryP (AsD.toD (Tp.mk ys)) = true := by
  show veryP (.tup (ys.map AsD.toD)) = true
  simp only [veryP, D.nod, D.dp, nodAll_ints, dpAll_ints, List.length_map]
  simp
  omega
theorem very_dct {ys : List (Int × Str)} (h : ys.length < 10) : veryP (D.dct ((dOf ys).map fun p => ((.inl p.1 : Key), AsD.toD p.2))) = true := by
  have := dOf_length ys []
  have h2 : (dOf ys).length ≤ 0 + ys.length := this
  simp only [veryP, List.length_map, Bool.and_eq_true, decide_eq_true_eq, List.all_eq_true]
  refine ⟨by omega, fun p hp => ?_⟩
  obtain ⟨q, _, rfl⟩ := List.mem_map.mp hp
  rfl
theorem drawn_ok {s : List Int} {k : Int} (hs : Spr s k) (hk : k ≤ 100) : ∃ d s', m__law_e_drawn s = some (d, s') ∧ veryP d = true ∧ Spr s' (k + 20) := by
  obtain ⟨way, s1, e1, w0, w1, hs1⟩ := draw_ok (many := 9) hs (by omega) (by decide) (by decide)
  unfold m__law_e_drawn
  rw [e1, Option.bind_some, Option.bind_some]
  by_cases h0 : way = 0
  · obtain ⟨d, s2, e2, _, _, hs2⟩ := draw_ok (many := 1000000000000000000000000000000) hs1 (by omega) (by decide) (by decide)
    have p30 : powO (10 : Int) 30 = some 1000000000000000000000000000000 := by rw [powO_p (by decide) (by decide) (by decide)]; rfl
    have p29 : powO (10 : Int) 29 = some 100000000000000000000000000000 := by rw [powO_p (by decide) (by decide) (by decide)]; rfl
    rw [if_pos (decide_eq_true h0), p30, Option.bind_some, e2, Option.bind_some, p29, Option.bind_some]
    exact ⟨_, _, rfl, rfl, hs2.mono (by omega)⟩
  rw [if_neg (by simpa using h0)]
  by_cases h1 : way = 1
  · obtain ⟨x, s2, e2, _, hs2⟩ := pick_ok (xs := ([(Str.ofString ""), (Str.ofString "a"), (Str.ofString "late"), (Str.ofString "two words"), (Str.ofString "x9")] : List Str)) hs1 (by omega) (by decide) (by decide)
    rw [if_pos (decide_eq_true h1), e2, Option.bind_some]
    exact ⟨_, _, rfl, rfl, hs2.mono (by omega)⟩
  rw [if_neg (by simpa using h1)]
  by_cases h2 : way = 2
  · obtain ⟨x, s2, e2, hx, hs2⟩ := pick_ok (xs := ([(AsD.toD (() : Unit)), (AsD.toD (true : Bool)), (AsD.toD (false : Bool)), (AsD.toD ((0 : Int) : Int)), (AsD.toD ((1 : Int) : Int))] : List D)) hs1 (by omega) (by decide) (by decide)
    rw [if_pos (decide_eq_true h2), e2, Option.bind_some]
    refine ⟨_, _, rfl, ?_, hs2.mono (by omega)⟩
    simp only [List.mem_cons, List.not_mem_nil, or_false] at hx
    rcases hx with rfl | rfl | rfl | rfl | rfl <;> rfl
  rw [if_neg (by simpa using h2)]
  by_cases h3 : way ∈ ([(3 : Int), (4 : Int)] : List Int)
  · obtain ⟨n, s2, e2, n0, n1, hs2⟩ := draw_ok (many := 4) hs1 (by omega) (by decide) (by decide)
    obtain ⟨ys, s3, e3, hl, hs3⟩ := manyL_ok (m := 9) (n := n) (by decide) (by decide) n0 (by omega) hs2 (by omega)
    rw [if_pos (decide_eq_true h3), e2, Option.bind_some, rngO_small (by decide) (by decide) (by omega) (by omega), Option.bind_some, e3, Option.bind_some]
    exact ⟨_, _, rfl, very_ints hl, hs3.mono (by omega)⟩
  rw [if_neg (by simpa using h3)]
  by_cases h5 : way = 5
  · obtain ⟨n, s2, e2, n0, n1, hs2⟩ := draw_ok (many := 4) hs1 (by omega) (by decide) (by decide)
    obtain ⟨ys, s3, e3, hl, hs3⟩ := manyL_ok (m := 9) (n := n) (by decide) (by decide) n0 (by omega) hs2 (by omega)
    rw [if_pos (decide_eq_true h5), e2, Option.bind_some, rngO_small (by decide) (by decide) (by omega) (by omega), Option.bind_some, e3, Option.bind_some]
    exact ⟨_, _, rfl, very_tup hl, hs3.mono (by omega)⟩
  rw [if_neg (by simpa using h5)]
  obtain ⟨n, s2, e2, n0, n1, hs2⟩ := draw_ok (many := 4) hs1 (by omega) (by decide) (by decide)
  have hl : (rng 0 n).length < 10 := by rw [rng_length]; omega
  obtain ⟨ys, s3, e3, hl2, hs3⟩ := manyP_ok (m := 9) (by decide) (by decide) (rng 0 n) hs2 (by omega)
  have e4 : lcSL (fun (s41 : (List Int)) (a40 : Int) => (m__law_draw s41 9).bind fun x44 =>
    some ((x44.1, (Str.ofString "v")), x44.2)) s2 (rng 0 n) = some (ys, s3) := by
    unfold lcSL
    rw [e3, Option.bind_some, if_pos (by rw [sizeLine_eq]; show ys.length ≤ _; omega)]
  rw [e2, Option.bind_some, rngO_small (by decide) (by decide) (by omega) (by omega), Option.bind_some, e4, Option.bind_some]
  exact ⟨_, _, rfl, very_dct (ys := ys) (by omega), hs3.mono (by omega)⟩
/-! ### the kinds of an error -/
variable {z : Adr}
theorem enum_none {C : Addr} : ∀ (L : List Addr) (n : Nat), C ∉ L → ((enumL n (L.map fun E => decide (C = E))).filter (·.2)) = []
  | [], _, _ => rfl
  | E :: L, n, h => by
    rw [List.map_cons]
    show ((((n : Int), decide (C = E)) :: enumL (n + 1) (L.map fun E => decide (C = E))).filter (·.2)) = []
    rw [List.filter_cons_of_neg (by simpa using fun e => h (by rw [e]; exact List.mem_cons_self)), enum_none L (n + 1) fun z => h (List.mem_cons_of_mem _ z)]
theorem enum_at {C : Addr} : ∀ (L : List Addr) (n i : Nat), L.Nodup → L[i]? = some C → ((enumL n (L.map fun E => decide (C = E))).filter (·.2)).map (·.1) = [((n + i : Nat) : Int)]
  | [], _, _, _, h => by simp at h
  | E :: L, n, 0, hn, h => by
    simp only [List.getElem?_cons_zero, Option.some.injEq] at h
    subst h
    rw [List.map_cons]
    show ((((n : Int), decide (E = E)) :: enumL (n + 1) (L.map fun F => decide (E = F))).filter (·.2)).map (·.1) = _
    rw [List.filter_cons_of_pos (by simp), enum_none L (n + 1) (List.nodup_cons.mp hn).1]
    rfl
  | E :: L, n, i + 1, hn, h => by
    simp only [List.getElem?_cons_succ] at h
    have hne : C ≠ E := fun e => (List.nodup_cons.mp hn).1 (by rw [← e]; exact List.mem_of_getElem? h)
    rw [List.map_cons]
    show ((((n : Int), decide (C = E)) :: enumL (n + 1) (L.map fun F => decide (C = F))).filter (·.2)).map (·.1) = _
    rw [List.filter_cons_of_neg (by simpa using hne), enum_at L (n + 1) i (List.nodup_cons.mp hn).2 h]
    congr 2
    omega
theorem kinds_ok {e : EV} (h : e.C ∈ z.all) : m__law_e_kinds (ZZ := z) e = some (z.all.map fun E => decide (e.C = E)) := by
  have k : ∀ E, isK z e.C E = some (decide (e.C = E)) := fun E => if_pos h
  unfold m__law_e_kinds
  simp only [k, Option.bind_some]
  rfl
theorem enumL_length {α : Type} : ∀ (xs : List α) (n : Nat), (enumL n xs).length = xs.length
  | [], _ => rfl
  | x :: xs, n => by
    show (enumL (n + 1) xs).length + 1 = xs.length + 1
    rw [enumL_length xs]
theorem which_ok {e : EV} {i : Nat} (nd : z.all.Nodup) (hi : z.all[i]? = some e.C) : lcL (fun (a22 : (Int × Bool)) => some a22.2) (fun (a22 : (Int × Bool)) => some a22.1) (enumL 0 (z.all.map fun E => decide (e.C = E))) = some [(i : Int)] := by
  have h0 := lcL_pure (t := fun (a22 : (Int × Bool)) => some a22.2) (e := fun (a22 : (Int × Bool)) => some a22.1) (p := fun a => a.2) (g := fun a => a.1) (xs := enumL 0 (z.all.map fun E => decide (e.C = E))) (fun _ _ => rfl) (fun _ _ _ => rfl) (by rw [enumL_length, List.length_map]; show z.all.length ≤ _; simp [Adr.all])
  rw [h0]
  have := enum_at z.all 0 i nd hi
  rw [Nat.zero_add] at this
  rw [this]
/-- a walk of tests -/
theorem foldO_unit {α : Type} {f : Unit → α → Option Unit} : ∀ (xs : List α), (∀ a ∈ xs, f () a = some ()) → foldO f () xs = some ()
  | [], _ => rfl
  | a :: xs, h => by
    show (f () a).bind _ = _
    rw [h a List.mem_cons_self]
    exact foldO_unit xs fun b hb => h b (List.mem_cons_of_mem _ hb)
/-- a row at its place -/
structure RowOk (z : Adr) (r : T.Row) (i : Nat) : Prop where
  a : z.all[i]? = some r.a.C
  b : z.all[i]? = some r.b.C
  la : lookO z r.l r.a = some r.due
  lb : lookO z r.l r.b = some r.due
  v : ∀ d ∈ r.due, veryP d.x = true
  n : r.due.length ≤ 1000
theorem right_ok {r : T.Row} {i : Nat} (nd : z.all.Nodup) (h : RowOk z r i) : m__law_e_right (ZZ := z) r (i : Int) = some true := by
  have one : ∀ e : EV, z.all[i]? = some e.C → lookO z r.l e = some r.due → ((isF z e.C).bind fun b7 =>
    (orO (!b7) ((isF z e.C).bind fun b9 =>
    some (!b9))).bind fun b11 =>
    (chk (!b11)).bind fun u17 =>
    (m__law_e_kinds (ZZ := z) e).bind fun x20 =>
    (lcL (fun (a22 : (Int × Bool)) => some a22.2) (fun (a22 : (Int × Bool)) => some a22.1) (enumL 0 x20)).bind fun l30 =>
    (chk (!(!decide (l30 = ([(i : Int)] : List Int))))).bind fun u34 =>
    (lookO z r.l e).bind fun x37 =>
    (orO (!decide ((x37.length : Int) = (r.due.length : Int))) ((lcL (fun (_ : ((Vid D) × (Vid D))) => some true) (fun (a40 : ((Vid D) × (Vid D))) => (veryO a40.1 a40.2).bind fun b42 =>
    some b42) (x37.zip r.due)).bind fun l50 =>
    some (!(l50.all id)))).bind fun b53 =>
    (chk (!b53)).bind fun u58 =>
    some ()) = some () := fun e hi hl => by
    have hm : e.C ∈ z.all := List.mem_of_getElem? hi
    have hF : isF z e.C = some true := if_pos hm
    have hv : lcL (fun (_ : ((Vid D) × (Vid D))) => some true) (fun (a40 : ((Vid D) × (Vid D))) => (veryO a40.1 a40.2).bind fun b42 => some b42) (r.due.zip r.due) = some ((r.due.zip r.due).map fun _ => true) := by
      rw [lcL_pure (p := fun _ => true) (g := fun _ => true) (fun _ _ => rfl) (fun p hp _ => by
        obtain ⟨e1, e2⟩ := zip_self hp
        have : veryO p.1 p.2 = some true := if_pos ⟨e1, h.v _ e2⟩
        rw [this]
        rfl) (by have := h.n; rw [List.length_zip]; omega), List.filter_eq_self.mpr fun _ _ => rfl]
    rw [hF, Option.bind_some, Option.bind_some]
    show (some false).bind _ = _
    rw [Option.bind_some]
    show (some ()).bind _ = _
    rw [Option.bind_some, kinds_ok hm, Option.bind_some, which_ok nd hi, Option.bind_some]
    have e1 : chk (!(!decide (([(i : Int)] : List Int) = [(i : Int)]))) = some () := by rw [decide_eq_true rfl]; rfl
    rw [e1, Option.bind_some, hl, Option.bind_some, hv]
    have e2 : (!decide ((r.due.length : Int) = (r.due.length : Int))) = false := by rw [decide_eq_true rfl]; rfl
    rw [e2, Option.bind_some]
    have e3 : (List.map (fun (_ : Vid D × Vid D) => true) (r.due.zip r.due)).all id = true := by
      rw [List.all_eq_true]
      intro b hb
      obtain ⟨_, _, rfl⟩ := List.mem_map.mp hb
      rfl
    rw [e3]
    rfl
  unfold m__law_e_right
  have ha := one r.a h.a h.la
  have hb := one r.b h.b h.lb
  have : foldO (fun (s1 : Unit) (a3 : EV) =>
    (isF z a3.C).bind fun b7 =>
    (orO (!b7) ((isF z a3.C).bind fun b9 =>
    some (!b9))).bind fun b11 =>
    (chk (!b11)).bind fun u17 =>
    (m__law_e_kinds (ZZ := z) a3).bind fun x20 =>
    (lcL (fun (a22 : (Int × Bool)) => some a22.2) (fun (a22 : (Int × Bool)) => some a22.1) (enumL 0 x20)).bind fun l30 =>
    (chk (!(!decide (l30 = ([(i : Int)] : List Int))))).bind fun u34 =>
    (lookO z r.l a3).bind fun x37 =>
    (orO (!decide ((x37.length : Int) = (r.due.length : Int))) ((lcL (fun (_ : ((Vid D) × (Vid D))) => some true) (fun (a40 : ((Vid D) × (Vid D))) => (veryO a40.1 a40.2).bind fun b42 =>
    some b42) (x37.zip r.due)).bind fun l50 =>
    some (!(l50.all id)))).bind fun b53 =>
    (chk (!b53)).bind fun u58 =>
    some ()) () ([r.a, r.b] : List EV) = some () := foldO_unit _ fun e he => by
    rcases List.mem_cons.mp he with rfl | he
    · exact ha
    · rw [List.mem_singleton] at he
      subst he
      exact hb
  rw [this]
  rfl
theorem look1 {q f : Str} {C : Addr} {v : Vid D} (h : (C, f) ∈ z.flds) : lookO z (Lk.mk q "e" [f]) (EV.mk C [(f, v)]) = some [v] := by
  unfold lookO
  rw [if_pos rfl]
  dsimp only
  rw [if_pos h]
  simp [List.lookup]
theorem look2 {q : Str} {C : Addr} {v w : Vid D} (h : (C, ("text" : Str)) ∈ z.flds) (h2 : (C, ("line" : Str)) ∈ z.flds) : lookO z (Lk.mk q "e" ["text", "line"]) (EV.mk C [("line", w), ("text", v)]) = some [v, w] := by
  unfold lookO
  rw [if_pos rfl]
  dsimp only
  rw [if_pos ⟨h, h2⟩]
  rfl
theorem row1_ok {q f : Str} {C : Addr} {v : Vid D} {i : Nat} (hi : z.all[i]? = some C) (h : (C, f) ∈ z.flds) (hv : veryP v.x = true) : RowOk z (T.Row.mk (EV.mk C [(f, v)]) (EV.mk C [(f, v)]) (Lk.mk q "e" [f]) [v]) i :=
  ⟨hi, hi, look1 h, look1 h, fun d hd => by rw [List.mem_singleton] at hd; subst hd; exact hv, by show 1 ≤ 1000; decide⟩
theorem row2_ok {q : Str} {C : Addr} {v w : Vid D} {i : Nat} (hi : z.all[i]? = some C) (h : (C, ("text" : Str)) ∈ z.flds) (h2 : (C, ("line" : Str)) ∈ z.flds) (hv : veryP v.x = true) (hw : veryP w.x = true) : RowOk z (T.Row.mk (EV.mk C [("line", w), ("text", v)]) (EV.mk C [("line", w), ("text", v)]) (Lk.mk q "e" ["text", "line"]) [v, w]) i :=
  ⟨hi, hi, look2 h h2, look2 h h2, fun d hd => by
    rcases List.mem_cons.mp hd with rfl | hd
    · exact hv
    · rw [List.mem_singleton] at hd; subst hd; exact hw, by show 2 ≤ 1000; decide⟩
theorem app_step {α β : Type} {xs : List α} {x : α} {f : List α → Option β} (h : xs.length ≤ 1000000) : (appO xs x).bind f = f (xs ++ [x]) := by rw [appO_small h, Option.bind_some]
theorem app16 {α : Type} (a1 a2 a3 a4 a5 a6 a7 a8 a9 a10 a11 a12 a13 a14 a15 a16 : α) : ((appO ([] : List α) a1).bind fun x1 => (appO x1 a2).bind fun x2 => (appO x2 a3).bind fun x3 => (appO x3 a4).bind fun x4 => (appO x4 a5).bind fun x5 => (appO x5 a6).bind fun x6 => (appO x6 a7).bind fun x7 => (appO x7 a8).bind fun x8 => (appO x8 a9).bind fun x9 => (appO x9 a10).bind fun x10 => (appO x10 a11).bind fun x11 => (appO x11 a12).bind fun x12 => (appO x12 a13).bind fun x13 => (appO x13 a14).bind fun x14 => (appO x14 a15).bind fun x15 => (appO x15 a16).bind fun x16 => some x16) = some [a1, a2, a3, a4, a5, a6, a7, a8, a9, a10, a11, a12, a13, a14, a15, a16] := by
  rw [app_step (by simp), app_step (by simp), app_step (by simp), app_step (by simp), app_step (by simp), app_step (by simp), app_step (by simp), app_step (by simp), app_step (by simp), app_step (by simp), app_step (by simp), app_step (by simp), app_step (by simp), app_step (by simp), app_step (by simp), app_step (by simp)]
  rfl
def rows_first (z : Adr) (x : Vid D) : List T.Row := [(T.Row.mk (EV.mk z.C_BadNames [("names", x)]) (EV.mk z.C_BadNames [("names", x)]) (Lk.mk "_law_e_first.<locals>.<lambda>" "e" ["names"]) [x]),
  (T.Row.mk (EV.mk z.C_BadEights [("eights", x)]) (EV.mk z.C_BadEights [("eights", x)]) (Lk.mk "_law_e_first.<locals>.<lambda>" "e" ["eights"]) [x]),
  (T.Row.mk (EV.mk z.C_NoName [("name", x)]) (EV.mk z.C_NoName [("name", x)]) (Lk.mk "_law_e_first.<locals>.<lambda>" "e" ["name"]) [x]),
  (T.Row.mk (EV.mk z.C_BadLot [("lot", x)]) (EV.mk z.C_BadLot [("lot", x)]) (Lk.mk "_law_e_first.<locals>.<lambda>" "e" ["lot"]) [x]),
  (T.Row.mk (EV.mk z.C_BadFive [("five", x)]) (EV.mk z.C_BadFive [("five", x)]) (Lk.mk "_law_e_first.<locals>.<lambda>" "e" ["five"]) [x]),
  (T.Row.mk (EV.mk z.C_BadImage [("image", x)]) (EV.mk z.C_BadImage [("image", x)]) (Lk.mk "_law_e_first.<locals>.<lambda>" "e" ["image"]) [x]),
  (T.Row.mk (EV.mk z.C_BadNumber [("number", x)]) (EV.mk z.C_BadNumber [("number", x)]) (Lk.mk "_law_e_first.<locals>.<lambda>" "e" ["number"]) [x]),
  (T.Row.mk (EV.mk z.C_BadEight [("eight", x)]) (EV.mk z.C_BadEight [("eight", x)]) (Lk.mk "_law_e_first.<locals>.<lambda>" "e" ["eight"]) [x]),
  (T.Row.mk (EV.mk z.C_BadRows [("rows", x)]) (EV.mk z.C_BadRows [("rows", x)]) (Lk.mk "_law_e_first.<locals>.<lambda>" "e" ["rows"]) [x]),
  (T.Row.mk (EV.mk z.C_BadSeven [("seven", x)]) (EV.mk z.C_BadSeven [("seven", x)]) (Lk.mk "_law_e_first.<locals>.<lambda>" "e" ["seven"]) [x]),
  (T.Row.mk (EV.mk z.C_BadMap [("own_map", x)]) (EV.mk z.C_BadMap [("own_map", x)]) (Lk.mk "_law_e_first.<locals>.<lambda>" "e" ["own_map"]) [x]),
  (T.Row.mk (EV.mk z.C_BadSigns [("signs", x)]) (EV.mk z.C_BadSigns [("signs", x)]) (Lk.mk "_law_e_first.<locals>.<lambda>" "e" ["signs"]) [x]),
  (T.Row.mk (EV.mk z.C_BadNumbers [("numbers", x)]) (EV.mk z.C_BadNumbers [("numbers", x)]) (Lk.mk "_law_e_first.<locals>.<lambda>" "e" ["numbers"]) [x]),
  (T.Row.mk (EV.mk z.C_BadQuestion [("question", x)]) (EV.mk z.C_BadQuestion [("question", x)]) (Lk.mk "_law_e_first.<locals>.<lambda>" "e" ["question"]) [x]),
  (T.Row.mk (EV.mk z.C_BadHalf [("half", x)]) (EV.mk z.C_BadHalf [("half", x)]) (Lk.mk "_law_e_first.<locals>.<lambda>" "e" ["half"]) [x]),
  (T.Row.mk (EV.mk z.C_BadFour [("four", x)]) (EV.mk z.C_BadFour [("four", x)]) (Lk.mk "_law_e_first.<locals>.<lambda>" "e" ["four"]) [x])]
theorem first_eq (x : Vid D) : m__law_e_first (ZZ := z) x = some (rows_first z x) := by
  unfold m__law_e_first rows_first
  exact app16 ..
def rows_second (z : Adr) (x : Vid D) : List T.Row := [(T.Row.mk (EV.mk z.C_BadSextet [("sextet", x)]) (EV.mk z.C_BadSextet [("sextet", x)]) (Lk.mk "_law_e_second.<locals>.<lambda>" "e" ["sextet"]) [x]),
  (T.Row.mk (EV.mk z.C_BadKind [("kind", x)]) (EV.mk z.C_BadKind [("kind", x)]) (Lk.mk "_law_e_second.<locals>.<lambda>" "e" ["kind"]) [x]),
  (T.Row.mk (EV.mk z.C_NotApart [("name", x)]) (EV.mk z.C_NotApart [("name", x)]) (Lk.mk "_law_e_second.<locals>.<lambda>" "e" ["name"]) [x]),
  (T.Row.mk (EV.mk z.C_BadTrio [("trio", x)]) (EV.mk z.C_BadTrio [("trio", x)]) (Lk.mk "_law_e_second.<locals>.<lambda>" "e" ["trio"]) [x]),
  (T.Row.mk (EV.mk z.C_BadTwelve [("twelve", x)]) (EV.mk z.C_BadTwelve [("twelve", x)]) (Lk.mk "_law_e_second.<locals>.<lambda>" "e" ["twelve"]) [x]),
  (T.Row.mk (EV.mk z.C_BadSix [("six", x)]) (EV.mk z.C_BadSix [("six", x)]) (Lk.mk "_law_e_second.<locals>.<lambda>" "e" ["six"]) [x]),
  (T.Row.mk (EV.mk z.C_BadLine [("line", x)]) (EV.mk z.C_BadLine [("line", x)]) (Lk.mk "_law_e_second.<locals>.<lambda>" "e" ["line"]) [x]),
  (T.Row.mk (EV.mk z.C_BadSixes [("sixes", x)]) (EV.mk z.C_BadSixes [("sixes", x)]) (Lk.mk "_law_e_second.<locals>.<lambda>" "e" ["sixes"]) [x]),
  (T.Row.mk (EV.mk z.C_BadRow [("row", x)]) (EV.mk z.C_BadRow [("row", x)]) (Lk.mk "_law_e_second.<locals>.<lambda>" "e" ["row"]) [x]),
  (T.Row.mk (EV.mk z.C_BadMarking [("marking", x)]) (EV.mk z.C_BadMarking [("marking", x)]) (Lk.mk "_law_e_second.<locals>.<lambda>" "e" ["marking"]) [x]),
  (T.Row.mk (EV.mk z.C_BadMarks [("marks", x)]) (EV.mk z.C_BadMarks [("marks", x)]) (Lk.mk "_law_e_second.<locals>.<lambda>" "e" ["marks"]) [x]),
  (T.Row.mk (EV.mk z.C_BadStand [("stand", x)]) (EV.mk z.C_BadStand [("stand", x)]) (Lk.mk "_law_e_second.<locals>.<lambda>" "e" ["stand"]) [x]),
  (T.Row.mk (EV.mk z.C_BadLabels [("labels", x)]) (EV.mk z.C_BadLabels [("labels", x)]) (Lk.mk "_law_e_second.<locals>.<lambda>" "e" ["labels"]) [x]),
  (T.Row.mk (EV.mk z.C_BadHexa [("six", x)]) (EV.mk z.C_BadHexa [("six", x)]) (Lk.mk "_law_e_second.<locals>.<lambda>" "e" ["six"]) [x]),
  (T.Row.mk (EV.mk z.C_BadNode [("node", x)]) (EV.mk z.C_BadNode [("node", x)]) (Lk.mk "_law_e_second.<locals>.<lambda>" "e" ["node"]) [x]),
  (T.Row.mk (EV.mk z.C_BadSignRows [("rows", x)]) (EV.mk z.C_BadSignRows [("rows", x)]) (Lk.mk "_law_e_second.<locals>.<lambda>" "e" ["rows"]) [x])]
theorem second_eq (x : Vid D) : m__law_e_second (ZZ := z) x = some (rows_second z x) := by
  unfold m__law_e_second rows_second
  exact app16 ..
def rows_third (z : Adr) (x : Vid D) : List T.Row := [(T.Row.mk (EV.mk z.C_BadPart [("part", x)]) (EV.mk z.C_BadPart [("part", x)]) (Lk.mk "_law_e_third.<locals>.<lambda>" "e" ["part"]) [x]),
  (T.Row.mk (EV.mk z.C_BadRing [("ring", x)]) (EV.mk z.C_BadRing [("ring", x)]) (Lk.mk "_law_e_third.<locals>.<lambda>" "e" ["ring"]) [x]),
  (T.Row.mk (EV.mk z.C_BadPlaces [("places", x)]) (EV.mk z.C_BadPlaces [("places", x)]) (Lk.mk "_law_e_third.<locals>.<lambda>" "e" ["places"]) [x]),
  (T.Row.mk (EV.mk z.C_BadTrust [("trust", x)]) (EV.mk z.C_BadTrust [("trust", x)]) (Lk.mk "_law_e_third.<locals>.<lambda>" "e" ["trust"]) [x]),
  (T.Row.mk (EV.mk z.C_BadWords [("words", x)]) (EV.mk z.C_BadWords [("words", x)]) (Lk.mk "_law_e_third.<locals>.<lambda>" "e" ["words"]) [x]),
  (T.Row.mk (EV.mk z.C_BadShape [("shape", x)]) (EV.mk z.C_BadShape [("shape", x)]) (Lk.mk "_law_e_third.<locals>.<lambda>" "e" ["shape"]) [x]),
  (T.Row.mk (EV.mk z.C_Within [("name", x)]) (EV.mk z.C_Within [("name", x)]) (Lk.mk "_law_e_third.<locals>.<lambda>" "e" ["name"]) [x]),
  (T.Row.mk (EV.mk z.C_Without [("name", x)]) (EV.mk z.C_Without [("name", x)]) (Lk.mk "_law_e_third.<locals>.<lambda>" "e" ["name"]) [x]),
  (T.Row.mk (EV.mk z.C_BadStep [("step", x)]) (EV.mk z.C_BadStep [("step", x)]) (Lk.mk "_law_e_third.<locals>.<lambda>" "e" ["step"]) [x]),
  (T.Row.mk (EV.mk z.C_BadSteps [("steps", x)]) (EV.mk z.C_BadSteps [("steps", x)]) (Lk.mk "_law_e_third.<locals>.<lambda>" "e" ["steps"]) [x]),
  (T.Row.mk (EV.mk z.C_Refused [("fault", x)]) (EV.mk z.C_Refused [("fault", x)]) (Lk.mk "_law_e_third.<locals>.<lambda>" "e" ["fault"]) [x]),
  (T.Row.mk (EV.mk z.C_BadJournal [("journal", x)]) (EV.mk z.C_BadJournal [("journal", x)]) (Lk.mk "_law_e_third.<locals>.<lambda>" "e" ["journal"]) [x]),
  (T.Row.mk (EV.mk z.C_BadNumbering [("numbering", x)]) (EV.mk z.C_BadNumbering [("numbering", x)]) (Lk.mk "_law_e_third.<locals>.<lambda>" "e" ["numbering"]) [x]),
  (T.Row.mk (EV.mk z.C_BadVector [("vector", x)]) (EV.mk z.C_BadVector [("vector", x)]) (Lk.mk "_law_e_third.<locals>.<lambda>" "e" ["vector"]) [x]),
  (T.Row.mk (EV.mk z.C_NoVector [("index", x)]) (EV.mk z.C_NoVector [("index", x)]) (Lk.mk "_law_e_third.<locals>.<lambda>" "e" ["index"]) [x]),
  (T.Row.mk (EV.mk z.C_TooGreat [("name", x)]) (EV.mk z.C_TooGreat [("name", x)]) (Lk.mk "_law_e_third.<locals>.<lambda>" "e" ["name"]) [x])]
theorem third_eq (x : Vid D) : m__law_e_third (ZZ := z) x = some (rows_third z x) := by
  unfold m__law_e_third rows_third
  exact app16 ..
def rows_fourth (z : Adr) (x y : Vid D) : List T.Row := [(T.Row.mk (EV.mk z.C_BadText [("line", y), ("text", x)]) (EV.mk z.C_BadText [("line", y), ("text", x)]) (Lk.mk "_law_e_fourth.<locals>.<lambda>" "e" ["text", "line"]) [x, y])]
theorem fourth_eq (x y : Vid D) : m__law_e_fourth (ZZ := z) x y = some (rows_fourth z x y) := rfl
def rows (z : Adr) (x y : Vid D) : List T.Row := rows_first z x ++ rows_second z x ++ rows_third z x ++ rows_fourth z x y
theorem fl_BadNames_names : (z.C_BadNames, ("names" : Str)) ∈ z.flds := by unfold Adr.flds; simp only [List.mem_cons, true_or, or_true]
theorem fl_BadEights_eights : (z.C_BadEights, ("eights" : Str)) ∈ z.flds := by unfold Adr.flds; simp only [List.mem_cons, true_or, or_true]
theorem fl_NoName_name : (z.C_NoName, ("name" : Str)) ∈ z.flds := by unfold Adr.flds; simp only [List.mem_cons, true_or, or_true]
theorem fl_BadLot_lot : (z.C_BadLot, ("lot" : Str)) ∈ z.flds := by unfold Adr.flds; simp only [List.mem_cons, true_or, or_true]
theorem fl_BadFive_five : (z.C_BadFive, ("five" : Str)) ∈ z.flds := by unfold Adr.flds; simp only [List.mem_cons, true_or, or_true]
theorem fl_BadImage_image : (z.C_BadImage, ("image" : Str)) ∈ z.flds := by unfold Adr.flds; simp only [List.mem_cons, true_or, or_true]
theorem fl_BadNumber_number : (z.C_BadNumber, ("number" : Str)) ∈ z.flds := by unfold Adr.flds; simp only [List.mem_cons, true_or, or_true]
theorem fl_BadEight_eight : (z.C_BadEight, ("eight" : Str)) ∈ z.flds := by unfold Adr.flds; simp only [List.mem_cons, true_or, or_true]
theorem fl_BadRows_rows : (z.C_BadRows, ("rows" : Str)) ∈ z.flds := by unfold Adr.flds; simp only [List.mem_cons, true_or, or_true]
theorem fl_BadSeven_seven : (z.C_BadSeven, ("seven" : Str)) ∈ z.flds := by unfold Adr.flds; simp only [List.mem_cons, true_or, or_true]
theorem fl_BadMap_own_map : (z.C_BadMap, ("own_map" : Str)) ∈ z.flds := by unfold Adr.flds; simp only [List.mem_cons, true_or, or_true]
theorem fl_BadSigns_signs : (z.C_BadSigns, ("signs" : Str)) ∈ z.flds := by unfold Adr.flds; simp only [List.mem_cons, true_or, or_true]
theorem fl_BadNumbers_numbers : (z.C_BadNumbers, ("numbers" : Str)) ∈ z.flds := by unfold Adr.flds; simp only [List.mem_cons, true_or, or_true]
theorem fl_BadQuestion_question : (z.C_BadQuestion, ("question" : Str)) ∈ z.flds := by unfold Adr.flds; simp only [List.mem_cons, true_or, or_true]
theorem fl_BadHalf_half : (z.C_BadHalf, ("half" : Str)) ∈ z.flds := by unfold Adr.flds; simp only [List.mem_cons, true_or, or_true]
theorem fl_BadFour_four : (z.C_BadFour, ("four" : Str)) ∈ z.flds := by unfold Adr.flds; simp only [List.mem_cons, true_or, or_true]
theorem fl_BadSextet_sextet : (z.C_BadSextet, ("sextet" : Str)) ∈ z.flds := by unfold Adr.flds; simp only [List.mem_cons, true_or, or_true]
theorem fl_BadKind_kind : (z.C_BadKind, ("kind" : Str)) ∈ z.flds := by unfold Adr.flds; simp only [List.mem_cons, true_or, or_true]
theorem fl_NotApart_name : (z.C_NotApart, ("name" : Str)) ∈ z.flds := by unfold Adr.flds; simp only [List.mem_cons, true_or, or_true]
theorem fl_BadTrio_trio : (z.C_BadTrio, ("trio" : Str)) ∈ z.flds := by unfold Adr.flds; simp only [List.mem_cons, true_or, or_true]
theorem fl_BadTwelve_twelve : (z.C_BadTwelve, ("twelve" : Str)) ∈ z.flds := by unfold Adr.flds; simp only [List.mem_cons, true_or, or_true]
theorem fl_BadSix_six : (z.C_BadSix, ("six" : Str)) ∈ z.flds := by unfold Adr.flds; simp only [List.mem_cons, true_or, or_true]
theorem fl_BadLine_line : (z.C_BadLine, ("line" : Str)) ∈ z.flds := by unfold Adr.flds; simp only [List.mem_cons, true_or, or_true]
theorem fl_BadSixes_sixes : (z.C_BadSixes, ("sixes" : Str)) ∈ z.flds := by unfold Adr.flds; simp only [List.mem_cons, true_or, or_true]
theorem fl_BadRow_row : (z.C_BadRow, ("row" : Str)) ∈ z.flds := by unfold Adr.flds; simp only [List.mem_cons, true_or, or_true]
theorem fl_BadMarking_marking : (z.C_BadMarking, ("marking" : Str)) ∈ z.flds := by unfold Adr.flds; simp only [List.mem_cons, true_or, or_true]
theorem fl_BadMarks_marks : (z.C_BadMarks, ("marks" : Str)) ∈ z.flds := by unfold Adr.flds; simp only [List.mem_cons, true_or, or_true]
theorem fl_BadStand_stand : (z.C_BadStand, ("stand" : Str)) ∈ z.flds := by unfold Adr.flds; simp only [List.mem_cons, true_or, or_true]
theorem fl_BadLabels_labels : (z.C_BadLabels, ("labels" : Str)) ∈ z.flds := by unfold Adr.flds; simp only [List.mem_cons, true_or, or_true]
theorem fl_BadHexa_six : (z.C_BadHexa, ("six" : Str)) ∈ z.flds := by unfold Adr.flds; simp only [List.mem_cons, true_or, or_true]
theorem fl_BadNode_node : (z.C_BadNode, ("node" : Str)) ∈ z.flds := by unfold Adr.flds; simp only [List.mem_cons, true_or, or_true]
theorem fl_BadSignRows_rows : (z.C_BadSignRows, ("rows" : Str)) ∈ z.flds := by unfold Adr.flds; simp only [List.mem_cons, true_or, or_true]
theorem fl_BadPart_part : (z.C_BadPart, ("part" : Str)) ∈ z.flds := by unfold Adr.flds; simp only [List.mem_cons, true_or, or_true]
theorem fl_BadRing_ring : (z.C_BadRing, ("ring" : Str)) ∈ z.flds := by unfold Adr.flds; simp only [List.mem_cons, true_or, or_true]
theorem fl_BadPlaces_places : (z.C_BadPlaces, ("places" : Str)) ∈ z.flds := by unfold Adr.flds; simp only [List.mem_cons, true_or, or_true]
theorem fl_BadTrust_trust : (z.C_BadTrust, ("trust" : Str)) ∈ z.flds := by unfold Adr.flds; simp only [List.mem_cons, true_or, or_true]
theorem fl_BadWords_words : (z.C_BadWords, ("words" : Str)) ∈ z.flds := by unfold Adr.flds; simp only [List.mem_cons, true_or, or_true]
theorem fl_BadShape_shape : (z.C_BadShape, ("shape" : Str)) ∈ z.flds := by unfold Adr.flds; simp only [List.mem_cons, true_or, or_true]
theorem fl_Within_name : (z.C_Within, ("name" : Str)) ∈ z.flds := by unfold Adr.flds; simp only [List.mem_cons, true_or, or_true]
theorem fl_Without_name : (z.C_Without, ("name" : Str)) ∈ z.flds := by unfold Adr.flds; simp only [List.mem_cons, true_or, or_true]
theorem fl_BadStep_step : (z.C_BadStep, ("step" : Str)) ∈ z.flds := by unfold Adr.flds; simp only [List.mem_cons, true_or, or_true]
theorem fl_BadSteps_steps : (z.C_BadSteps, ("steps" : Str)) ∈ z.flds := by unfold Adr.flds; simp only [List.mem_cons, true_or, or_true]
theorem fl_Refused_fault : (z.C_Refused, ("fault" : Str)) ∈ z.flds := by unfold Adr.flds; simp only [List.mem_cons, true_or, or_true]
theorem fl_BadJournal_journal : (z.C_BadJournal, ("journal" : Str)) ∈ z.flds := by unfold Adr.flds; simp only [List.mem_cons, true_or, or_true]
theorem fl_BadNumbering_numbering : (z.C_BadNumbering, ("numbering" : Str)) ∈ z.flds := by unfold Adr.flds; simp only [List.mem_cons, true_or, or_true]
theorem fl_BadVector_vector : (z.C_BadVector, ("vector" : Str)) ∈ z.flds := by unfold Adr.flds; simp only [List.mem_cons, true_or, or_true]
theorem fl_NoVector_index : (z.C_NoVector, ("index" : Str)) ∈ z.flds := by unfold Adr.flds; simp only [List.mem_cons, true_or, or_true]
theorem fl_TooGreat_name : (z.C_TooGreat, ("name" : Str)) ∈ z.flds := by unfold Adr.flds; simp only [List.mem_cons, true_or, or_true]
theorem fl_BadText_text : (z.C_BadText, ("text" : Str)) ∈ z.flds := by unfold Adr.flds; simp only [List.mem_cons, true_or, or_true]
theorem fl_BadText_line : (z.C_BadText, ("line" : Str)) ∈ z.flds := by unfold Adr.flds; simp only [List.mem_cons, true_or, or_true]
theorem rows_ok {x y : Vid D} (hx : veryP x.x = true) (hy : veryP y.x = true) : ∀ p ∈ enumL 0 (rows z x y), ∃ i : Nat, p.1 = (i : Int) ∧ (rows z x y)[i]? = some p.2 ∧ RowOk z p.2 i :=
  List.forall_mem_cons.mpr ⟨⟨_, rfl, rfl, row1_ok (i := 0) rfl fl_BadNames_names hx⟩, List.forall_mem_cons.mpr ⟨⟨_, rfl, rfl, row1_ok (i := 1) rfl fl_BadEights_eights hx⟩, List.forall_mem_cons.mpr ⟨⟨_, rfl, rfl, row1_ok (i := 2) rfl fl_NoName_name hx⟩, List.forall_mem_cons.mpr ⟨⟨_, rfl, rfl, row1_ok (i := 3) rfl fl_BadLot_lot hx⟩, List.forall_mem_cons.mpr ⟨⟨_, rfl, rfl, row1_ok (i := 4) rfl fl_BadFive_five hx⟩, List.forall_mem_cons.mpr ⟨⟨_, rfl, rfl, row1_ok (i := 5) rfl fl_BadImage_image hx⟩, List.forall_mem_cons.mpr ⟨⟨_, rfl, rfl, row1_ok (i := 6) rfl fl_BadNumber_number hx⟩, List.forall_mem_cons.mpr ⟨⟨_, rfl, rfl, row1_ok (i := 7) rfl fl_BadEight_eight hx⟩, List.forall_mem_cons.mpr ⟨⟨_, rfl, rfl, row1_ok (i := 8) rfl fl_BadRows_rows hx⟩, List.forall_mem_cons.mpr ⟨⟨_, rfl, rfl, row1_ok (i := 9) rfl fl_BadSeven_seven hx⟩, List.forall_mem_cons.mpr ⟨⟨_, rfl, rfl, row1_ok (i := 10) rfl fl_BadMap_own_map hx⟩, List.forall_mem_cons.mpr ⟨⟨_, rfl, rfl, row1_ok (i := 11) rfl fl_BadSigns_signs hx⟩, List.forall_mem_cons.mpr ⟨⟨_, rfl, rfl, row1_ok (i := 12) rfl fl_BadNumbers_numbers hx⟩, List.forall_mem_cons.mpr ⟨⟨_, rfl, rfl, row1_ok (i := 13) rfl fl_BadQuestion_question hx⟩, List.forall_mem_cons.mpr ⟨⟨_, rfl, rfl, row1_ok (i := 14) rfl fl_BadHalf_half hx⟩, List.forall_mem_cons.mpr ⟨⟨_, rfl, rfl, row1_ok (i := 15) rfl fl_BadFour_four hx⟩, List.forall_mem_cons.mpr ⟨⟨_, rfl, rfl, row1_ok (i := 16) rfl fl_BadSextet_sextet hx⟩, List.forall_mem_cons.mpr ⟨⟨_, rfl, rfl, row1_ok (i := 17) rfl fl_BadKind_kind hx⟩, List.forall_mem_cons.mpr ⟨⟨_, rfl, rfl, row1_ok (i := 18) rfl fl_NotApart_name hx⟩, List.forall_mem_cons.mpr ⟨⟨_, rfl, rfl, row1_ok (i := 19) rfl fl_BadTrio_trio hx⟩, List.forall_mem_cons.mpr ⟨⟨_, rfl, rfl, row1_ok (i := 20) rfl fl_BadTwelve_twelve hx⟩, List.forall_mem_cons.mpr ⟨⟨_, rfl, rfl, row1_ok (i := 21) rfl fl_BadSix_six hx⟩, List.forall_mem_cons.mpr ⟨⟨_, rfl, rfl, row1_ok (i := 22) rfl fl_BadLine_line hx⟩, List.forall_mem_cons.mpr ⟨⟨_, rfl, rfl, row1_ok (i := 23) rfl fl_BadSixes_sixes hx⟩, List.forall_mem_cons.mpr ⟨⟨_, rfl, rfl, row1_ok (i := 24) rfl fl_BadRow_row hx⟩, List.forall_mem_cons.mpr ⟨⟨_, rfl, rfl, row1_ok (i := 25) rfl fl_BadMarking_marking hx⟩, List.forall_mem_cons.mpr ⟨⟨_, rfl, rfl, row1_ok (i := 26) rfl fl_BadMarks_marks hx⟩, List.forall_mem_cons.mpr ⟨⟨_, rfl, rfl, row1_ok (i := 27) rfl fl_BadStand_stand hx⟩, List.forall_mem_cons.mpr ⟨⟨_, rfl, rfl, row1_ok (i := 28) rfl fl_BadLabels_labels hx⟩, List.forall_mem_cons.mpr ⟨⟨_, rfl, rfl, row1_ok (i := 29) rfl fl_BadHexa_six hx⟩, List.forall_mem_cons.mpr ⟨⟨_, rfl, rfl, row1_ok (i := 30) rfl fl_BadNode_node hx⟩, List.forall_mem_cons.mpr ⟨⟨_, rfl, rfl, row1_ok (i := 31) rfl fl_BadSignRows_rows hx⟩, List.forall_mem_cons.mpr ⟨⟨_, rfl, rfl, row1_ok (i := 32) rfl fl_BadPart_part hx⟩, List.forall_mem_cons.mpr ⟨⟨_, rfl, rfl, row1_ok (i := 33) rfl fl_BadRing_ring hx⟩, List.forall_mem_cons.mpr ⟨⟨_, rfl, rfl, row1_ok (i := 34) rfl fl_BadPlaces_places hx⟩, List.forall_mem_cons.mpr ⟨⟨_, rfl, rfl, row1_ok (i := 35) rfl fl_BadTrust_trust hx⟩, List.forall_mem_cons.mpr ⟨⟨_, rfl, rfl, row1_ok (i := 36) rfl fl_BadWords_words hx⟩, List.forall_mem_cons.mpr ⟨⟨_, rfl, rfl, row1_ok (i := 37) rfl fl_BadShape_shape hx⟩, List.forall_mem_cons.mpr ⟨⟨_, rfl, rfl, row1_ok (i := 38) rfl fl_Within_name hx⟩, List.forall_mem_cons.mpr ⟨⟨_, rfl, rfl, row1_ok (i := 39) rfl fl_Without_name hx⟩, List.forall_mem_cons.mpr ⟨⟨_, rfl, rfl, row1_ok (i := 40) rfl fl_BadStep_step hx⟩, List.forall_mem_cons.mpr ⟨⟨_, rfl, rfl, row1_ok (i := 41) rfl fl_BadSteps_steps hx⟩, List.forall_mem_cons.mpr ⟨⟨_, rfl, rfl, row1_ok (i := 42) rfl fl_Refused_fault hx⟩, List.forall_mem_cons.mpr ⟨⟨_, rfl, rfl, row1_ok (i := 43) rfl fl_BadJournal_journal hx⟩, List.forall_mem_cons.mpr ⟨⟨_, rfl, rfl, row1_ok (i := 44) rfl fl_BadNumbering_numbering hx⟩, List.forall_mem_cons.mpr ⟨⟨_, rfl, rfl, row1_ok (i := 45) rfl fl_BadVector_vector hx⟩, List.forall_mem_cons.mpr ⟨⟨_, rfl, rfl, row1_ok (i := 46) rfl fl_NoVector_index hx⟩, List.forall_mem_cons.mpr ⟨⟨_, rfl, rfl, row1_ok (i := 47) rfl fl_TooGreat_name hx⟩, List.forall_mem_cons.mpr ⟨⟨_, rfl, rfl, row2_ok (i := 48) rfl fl_BadText_text fl_BadText_line hx hy⟩, fun _ h => (by cases h)⟩⟩⟩⟩⟩⟩⟩⟩⟩⟩⟩⟩⟩⟩⟩⟩⟩⟩⟩⟩⟩⟩⟩⟩⟩⟩⟩⟩⟩⟩⟩⟩⟩⟩⟩⟩⟩⟩⟩⟩⟩⟩⟩⟩⟩⟩⟩⟩⟩
theorem at_nat {α : Type} {xs : List α} {i : Nat} {x : α} (h : xs[i]? = some x) : L2.atI xs (i : Int) = some x := by
  have hl := (List.getElem?_eq_some_iff.mp h).1
  unfold L2.atI L2.ixN
  rw [if_pos (by omega), if_pos (by omega), Option.bind_some]
  rw [show ((i : Int)).toNat = i by omega]
  exact h
theorem enum_mem {α : Type} : ∀ {xs : List α} {i n : Nat} {x : α}, xs[i]? = some x → (((n + i : Nat) : Int), x) ∈ enumL n xs
  | [], _, _, _, h => by simp at h
  | y :: xs, 0, n, x, h => by
    simp only [List.getElem?_cons_zero, Option.some.injEq] at h
    subst h
    exact List.mem_cons_self
  | y :: xs, i + 1, n, x, h => by
    simp only [List.getElem?_cons_succ] at h
    have := enum_mem (n := n + 1) h
    rw [show n + 1 + i = n + (i + 1) by omega] at this
    exact List.mem_cons_of_mem _ this
theorem m_law_true (nd : z.all.Nodup) (sc : Sq) : m_law (ZZ := z) sc = some true := by
  have turn : ∀ a ∈ rng 0 3, (m__law_spring sc a).bind (fun x10 =>
      (m__law_e_drawn x10).bind fun x14 =>
      (m__law_e_drawn x14.2).bind fun x16 =>
      chkV fun (vd20 : V) =>
      chkV fun (vd22 : V) =>
      (m__law_e_first (ZZ := z) (Vid.mk vd20 x14.1)).bind fun x24 =>
      (m__law_e_second (ZZ := z) (Vid.mk vd20 x14.1)).bind fun x26 =>
      (catO x24 x26).bind fun x28 =>
      (m__law_e_third (ZZ := z) (Vid.mk vd20 x14.1)).bind fun x30 =>
      (catO x28 x30).bind fun x32 =>
      (m__law_e_fourth (ZZ := z) (Vid.mk vd20 x14.1) (Vid.mk vd22 x16.1)).bind fun x34 =>
      (catO x32 x34).bind fun x36 =>
      (foldO (fun (s45 : Unit) (a47 : (Int × T.Row)) =>
      (m__law_e_right (ZZ := z) a47.2 a47.1).bind fun x51 =>
      (chk (!(!x51))).bind fun u54 =>
      some ()) () (enumL 0 x36)).bind fun (s57 : Unit) =>
      (m__law_e_first (ZZ := z) (Vid.mk vd22 x16.1)).bind fun x60 =>
      (m__law_e_second (ZZ := z) (Vid.mk vd22 x16.1)).bind fun x62 =>
      (catO x60 x62).bind fun x64 =>
      (m__law_e_third (ZZ := z) (Vid.mk vd22 x16.1)).bind fun x66 =>
      (catO x64 x66).bind fun x68 =>
      (m__law_e_fourth (ZZ := z) (Vid.mk vd22 x16.1) (Vid.mk vd20 x14.1)).bind fun x70 =>
      (catO x68 x70).bind fun x72 =>
      (foldO (fun (s81 : Unit) (a83 : (Int × T.Row)) =>
      (m__law_e_right (ZZ := z) a83.2 a83.1).bind fun x87 =>
      (orO (!x87) ((L2.atI x36 a83.1).bind fun x89 =>
      (m__law_e_right (ZZ := z) x89 a83.1).bind fun x91 =>
      some (!x91))).bind fun b93 =>
      (chk (!b93)).bind fun u100 =>
      some ()) () (enumL 0 x72)).bind fun (s103 : Unit) =>
      some ()) = some () := fun a ha => by
    obtain ⟨a0, a1⟩ := mem_rng.mp ha
    obtain ⟨s, e1, hs⟩ := spring_ok sc a0 a1
    obtain ⟨x, s1, e2, vx, hs1⟩ := drawn_ok hs (by decide)
    obtain ⟨y, s2, e3, vy, hs2⟩ := drawn_ok hs1 (by decide)
    rw [e1, Option.bind_some, e2, Option.bind_some]
    show (m__law_e_drawn s1).bind _ = _
    rw [e3, Option.bind_some]
    refine chkV_ok fun v => chkV_ok fun w => ?_
    have c1 : ∀ u : Vid D, catO (rows_first z u) (rows_second z u) = some (rows_first z u ++ rows_second z u) := fun _ => rfl
    have c2 : ∀ u : Vid D, catO (rows_first z u ++ rows_second z u) (rows_third z u) = some (rows_first z u ++ rows_second z u ++ rows_third z u) := fun _ => rfl
    have c3 : ∀ u t : Vid D, catO (rows_first z u ++ rows_second z u ++ rows_third z u) (rows_fourth z u t) = some (rows z u t) := fun _ _ => rfl
    rw [first_eq, Option.bind_some, second_eq, Option.bind_some, c1, Option.bind_some, third_eq, Option.bind_some, c2, Option.bind_some, fourth_eq, Option.bind_some, c3, Option.bind_some]
    have f1 : ∀ u t : Vid D, veryP u.x = true → veryP t.x = true → foldO (fun (s45 : Unit) (a47 : (Int × T.Row)) =>
      (m__law_e_right (ZZ := z) a47.2 a47.1).bind fun x51 =>
      (chk (!(!x51))).bind fun u54 =>
      some ()) () (enumL 0 (rows z u t)) = some () := fun u t hu ht => foldO_unit _ fun p hp => by
      obtain ⟨i, e, _, h⟩ := rows_ok hu ht p hp
      rw [e, right_ok nd h]
      rfl
    rw [f1 (Vid.mk v x) (Vid.mk w y) vx vy, Option.bind_some, first_eq, Option.bind_some, second_eq, Option.bind_some, c1, Option.bind_some, third_eq, Option.bind_some, c2, Option.bind_some, fourth_eq, Option.bind_some, c3, Option.bind_some]
    rw [foldO_unit _ fun p hp => ?_]
    · rfl
    · obtain ⟨i, e, hi, h⟩ := rows_ok (x := Vid.mk w y) (y := Vid.mk v x) vy vx p hp
      have hl : i < (rows z (Vid.mk v x) (Vid.mk w y)).length := (List.getElem?_eq_some_iff.mp hi).1
      obtain ⟨r, hr⟩ : ∃ r, (rows z (Vid.mk v x) (Vid.mk w y))[i]? = some r := ⟨_, List.getElem?_eq_getElem hl⟩
      have hr2 : RowOk z r i := by
        have hm : ((i : Int), r) ∈ enumL 0 (rows z (Vid.mk v x) (Vid.mk w y)) := by have := enum_mem (n := 0) hr; rwa [Nat.zero_add] at this
        obtain ⟨j, e', _, h'⟩ := rows_ok (x := Vid.mk v x) (y := Vid.mk w y) vx vy _ hm
        have : i = j := by have e' : (i : Int) = (j : Int) := e'; omega
        subst this
        exact h'
      rw [e, right_ok nd h, Option.bind_some, at_nat hr, Option.bind_some, right_ok nd hr2]
      rfl
  have last : ∀ (c : Addr) (i : Nat), z.all[i]? = some c → (m__law_e_kinds (ZZ := z) (EV.mk c [])) = some (z.all.map fun E => decide (c = E)) ∧ lcL (fun (a116 : (Int × Bool)) => some a116.2) (fun (a116 : (Int × Bool)) => some a116.1) (enumL 0 (z.all.map fun E => decide (c = E))) = some [(i : Int)] := fun c i h => ⟨kinds_ok (e := EV.mk c []) (List.mem_of_getElem? h), which_ok (e := EV.mk c []) nd h⟩
  have l1 := last z.C_NothingDone 49 rfl
  have l2 := last z.C_NothingUndone 50 rfl
  unfold m_law
  rw [rngO_small (by decide) (by decide) (by decide) (by decide), Option.bind_some, foldO_unit _ turn, Option.bind_some, Option.bind_some, l1.1, Option.bind_some, l1.2, Option.bind_some]
  have e1 : chk (!(!decide (([((49 : Nat) : Int)] : List Int) = [(49 : Int)]))) = some () := by decide
  have e2 : chk (!(!decide (([((50 : Nat) : Int)] : List Int) = [((49 : Int) + 1)]))) = some () := by decide
  have f1 : isF z z.C_NothingDone = some true := if_pos (Adr.mem_NothingDone z)
  have f2 : isF z z.C_NothingUndone = some true := if_pos (Adr.mem_NothingUndone z)
  rw [e1, Option.bind_some, l2.1, Option.bind_some, l2.2, Option.bind_some, e2, Option.bind_some]
  show (isF z z.C_NothingDone).bind _ = _
  rw [f1, Option.bind_some]
  show (andO true ((isF z z.C_NothingUndone).bind _)).bind _ = _
  rw [f2]
  rfl
end K00
set_option Elab.async false
set_option linter.all false
set_option maxRecDepth 100000
set_option maxHeartbeats 0
set_option autoImplicit false
open PySem PySem.W
noncomputable def K00.Kx : Params → Frag := fun P =>
  (nat_lit 2, { cls := Value.none, data := Data.dict #[] }) ::
  (nat_lit 3, { cls := Value.type "dict", data := Data.dict #[{ hash := PyData.keyHash P ("__name__"), key := Value.str ("__name__") 165, val := Value.str ("law_eachfive_k00_errors_made") 1596 }, { hash := PyData.keyHash P ("__doc__"), key := Value.str ("__doc__") 166, val := Value.none }, { hash := PyData.keyHash P ("__package__"), key := Value.str ("__package__") 167, val := Value.none }, { hash := PyData.keyHash P ("__loader__"), key := Value.str ("__loader__") 168, val := Value.builtin "__main__.__loader__#opaque" }, { hash := PyData.keyHash P ("__spec__"), key := Value.str ("__spec__") 169, val := Value.none }, { hash := PyData.keyHash P ("__annotations__"), key := Value.str ("__annotations__") 170, val := Value.ref 6 }, { hash := PyData.keyHash P ("__builtins__"), key := Value.str ("__builtins__") 171, val := Value.ref 4 }, { hash := PyData.keyHash P ("__file__"), key := Value.str ("__file__") 173, val := Value.str ("/claim/cut.py") 172 }, { hash := PyData.keyHash P ("__cached__"), key := Value.str ("__cached__") 174, val := Value.none }, { hash := PyData.keyHash P ("FiveError"), key := Value.str ("FiveError") 206, val := Value.ref 24 }, { hash := PyData.keyHash P ("BadNames"), key := Value.str ("BadNames") 233, val := Value.ref 46 }, { hash := PyData.keyHash P ("BadEights"), key := Value.str ("BadEights") 260, val := Value.ref 67 }, { hash := PyData.keyHash P ("NoName"), key := Value.str ("NoName") 287, val := Value.ref 88 }, { hash := PyData.keyHash P ("BadLot"), key := Value.str ("BadLot") 314, val := Value.ref 109 }, { hash := PyData.keyHash P ("BadFive"), key := Value.str ("BadFive") 341, val := Value.ref 130 }, { hash := PyData.keyHash P ("BadImage"), key := Value.str ("BadImage") 368, val := Value.ref 151 }, { hash := PyData.keyHash P ("BadNumber"), key := Value.str ("BadNumber") 395, val := Value.ref 172 }, { hash := PyData.keyHash P ("BadEight"), key := Value.str ("BadEight") 422, val := Value.ref 193 }, { hash := PyData.keyHash P ("BadRows"), key := Value.str ("BadRows") 449, val := Value.ref 214 }, { hash := PyData.keyHash P ("BadSeven"), key := Value.str ("BadSeven") 476, val := Value.ref 235 }, { hash := PyData.keyHash P ("BadMap"), key := Value.str ("BadMap") 503, val := Value.ref 256 }, { hash := PyData.keyHash P ("BadSigns"), key := Value.str ("BadSigns") 530, val := Value.ref 277 }, { hash := PyData.keyHash P ("BadNumbers"), key := Value.str ("BadNumbers") 557, val := Value.ref 298 }, { hash := PyData.keyHash P ("BadQuestion"), key := Value.str ("BadQuestion") 584, val := Value.ref 319 }, { hash := PyData.keyHash P ("BadHalf"), key := Value.str ("BadHalf") 613, val := Value.ref 340 }, { hash := PyData.keyHash P ("BadFour"), key := Value.str ("BadFour") 642, val := Value.ref 361 }, { hash := PyData.keyHash P ("BadSextet"), key := Value.str ("BadSextet") 669, val := Value.ref 382 }, { hash := PyData.keyHash P ("BadKind"), key := Value.str ("BadKind") 696, val := Value.ref 403 }, { hash := PyData.keyHash P ("NotApart"), key := Value.str ("NotApart") 723, val := Value.ref 424 }, { hash := PyData.keyHash P ("BadTrio"), key := Value.str ("BadTrio") 750, val := Value.ref 445 }, { hash := PyData.keyHash P ("BadTwelve"), key := Value.str ("BadTwelve") 777, val := Value.ref 466 }, { hash := PyData.keyHash P ("BadSix"), key := Value.str ("BadSix") 804, val := Value.ref 487 }, { hash := PyData.keyHash P ("BadLine"), key := Value.str ("BadLine") 831, val := Value.ref 508 }, { hash := PyData.keyHash P ("BadSixes"), key := Value.str ("BadSixes") 858, val := Value.ref 529 }, { hash := PyData.keyHash P ("BadRow"), key := Value.str ("BadRow") 885, val := Value.ref 550 }, { hash := PyData.keyHash P ("BadMarking"), key := Value.str ("BadMarking") 912, val := Value.ref 571 }, { hash := PyData.keyHash P ("BadMarks"), key := Value.str ("BadMarks") 939, val := Value.ref 592 }, { hash := PyData.keyHash P ("BadStand"), key := Value.str ("BadStand") 966, val := Value.ref 613 }, { hash := PyData.keyHash P ("BadLabels"), key := Value.str ("BadLabels") 993, val := Value.ref 634 }, { hash := PyData.keyHash P ("BadHexa"), key := Value.str ("BadHexa") 1020, val := Value.ref 655 }, { hash := PyData.keyHash P ("BadNode"), key := Value.str ("BadNode") 1047, val := Value.ref 676 }, { hash := PyData.keyHash P ("BadSignRows"), key := Value.str ("BadSignRows") 1074, val := Value.ref 697 }, { hash := PyData.keyHash P ("BadPart"), key := Value.str ("BadPart") 1103, val := Value.ref 718 }, { hash := PyData.keyHash P ("BadRing"), key := Value.str ("BadRing") 1132, val := Value.ref 739 }, { hash := PyData.keyHash P ("BadPlaces"), key := Value.str ("BadPlaces") 1159, val := Value.ref 760 }, { hash := PyData.keyHash P ("BadTrust"), key := Value.str ("BadTrust") 1188, val := Value.ref 781 }, { hash := PyData.keyHash P ("BadWords"), key := Value.str ("BadWords") 1215, val := Value.ref 802 }, { hash := PyData.keyHash P ("BadShape"), key := Value.str ("BadShape") 1242, val := Value.ref 823 }, { hash := PyData.keyHash P ("Within"), key := Value.str ("Within") 1271, val := Value.ref 844 }, { hash := PyData.keyHash P ("Without"), key := Value.str ("Without") 1298, val := Value.ref 865 }, { hash := PyData.keyHash P ("NothingDone"), key := Value.str ("NothingDone") 1323, val := Value.ref 886 }, { hash := PyData.keyHash P ("NothingUndone"), key := Value.str ("NothingUndone") 1348, val := Value.ref 907 }, { hash := PyData.keyHash P ("BadStep"), key := Value.str ("BadStep") 1375, val := Value.ref 928 }, { hash := PyData.keyHash P ("BadSteps"), key := Value.str ("BadSteps") 1402, val := Value.ref 949 }, { hash := PyData.keyHash P ("Refused"), key := Value.str ("Refused") 1429, val := Value.ref 970 }, { hash := PyData.keyHash P ("BadText"), key := Value.str ("BadText") 1458, val := Value.ref 991 }, { hash := PyData.keyHash P ("BadJournal"), key := Value.str ("BadJournal") 1485, val := Value.ref 1012 }, { hash := PyData.keyHash P ("BadNumbering"), key := Value.str ("BadNumbering") 1514, val := Value.ref 1033 }, { hash := PyData.keyHash P ("BadVector"), key := Value.str ("BadVector") 1541, val := Value.ref 1054 }, { hash := PyData.keyHash P ("NoVector"), key := Value.str ("NoVector") 1568, val := Value.ref 1075 }, { hash := PyData.keyHash P ("TooGreat"), key := Value.str ("TooGreat") 1595, val := Value.ref 1096 }, { hash := PyData.keyHash P ("_law_spring"), key := Value.str ("_law_spring") 1609, val := Value.ref 1105 }, { hash := PyData.keyHash P ("_law_draw"), key := Value.str ("_law_draw") 1619, val := Value.ref 1112 }, { hash := PyData.keyHash P ("_law_pick"), key := Value.str ("_law_pick") 1627, val := Value.ref 1119 }, { hash := PyData.keyHash P ("_law_mixed"), key := Value.str ("_law_mixed") 1633, val := Value.ref 1124 }, { hash := PyData.keyHash P ("_law_very"), key := Value.str ("_law_very") 1642, val := Value.ref 1131 }, { hash := PyData.keyHash P ("_law_same"), key := Value.str ("_law_same") 1648, val := Value.ref 1136 }, { hash := PyData.keyHash P ("_law_e_first"), key := Value.str ("_law_e_first") 1656, val := Value.ref 1143 }, { hash := PyData.keyHash P ("_law_e_second"), key := Value.str ("_law_e_second") 1664, val := Value.ref 1150 }, { hash := PyData.keyHash P ("_law_e_third"), key := Value.str ("_law_e_third") 1672, val := Value.ref 1157 }, { hash := PyData.keyHash P ("_law_e_fourth"), key := Value.str ("_law_e_fourth") 1681, val := Value.ref 1164 }, { hash := PyData.keyHash P ("_law_e_kinds"), key := Value.str ("_law_e_kinds") 1688, val := Value.ref 1171 }, { hash := PyData.keyHash P ("_law_e_drawn"), key := Value.str ("_law_e_drawn") 1694, val := Value.ref 1176 }, { hash := PyData.keyHash P ("_law_e_right"), key := Value.str ("_law_e_right") 1700, val := Value.ref 1181 }, { hash := PyData.keyHash P ("law"), key := Value.str ("law") 1706, val := Value.ref 1186 }] 75 }) ::
  (nat_lit 23, { cls := Value.type "dict", data := Data.dict #[{ hash := PyData.keyHash P ("__module__"), key := Value.str ("__module__") 196, val := Value.str ("eachfive.errors") 187 }, { hash := PyData.keyHash P ("__firstlineno__"), key := Value.str ("__firstlineno__") 200, val := Value.int 2 199 }, { hash := PyData.keyHash P ("__static_attributes__"), key := Value.str ("__static_attributes__") 201, val := Value.ref 22 }, { hash := PyData.keyHash P ("__weakref__"), key := Value.str ("__weakref__") 203, val := Value.ref 25 }, { hash := PyData.keyHash P ("__doc__"), key := Value.str ("__doc__") 204, val := Value.none }] 3 }) ::
  (nat_lit 24, { cls := Value.type "type", data := Data.cls { name := "FiveError", bases := [Value.type "ValueError"], mro := [Value.ref 24, Value.type "ValueError", Value.type "Exception", Value.type "BaseException", Value.type "object"], ns := 23, qualname := "FiveError", subclasses := [Value.ref 46, Value.ref 67, Value.ref 88, Value.ref 109, Value.ref 130, Value.ref 151, Value.ref 172, Value.ref 193, Value.ref 214, Value.ref 235, Value.ref 256, Value.ref 277, Value.ref 298, Value.ref 319, Value.ref 340, Value.ref 361, Value.ref 382, Value.ref 403, Value.ref 424, Value.ref 445, Value.ref 466, Value.ref 487, Value.ref 508, Value.ref 529, Value.ref 550, Value.ref 571, Value.ref 592, Value.ref 613, Value.ref 634, Value.ref 655, Value.ref 676, Value.ref 697, Value.ref 718, Value.ref 739, Value.ref 760, Value.ref 781, Value.ref 802, Value.ref 823, Value.ref 844, Value.ref 865, Value.ref 886, Value.ref 907, Value.ref 928, Value.ref 949, Value.ref 970, Value.ref 991, Value.ref 1012, Value.ref 1033, Value.ref 1054, Value.ref 1075, Value.ref 1096] }, slots := #[Option.some (Value.ref 15), Option.none, Option.some (Value.str ("FiveError") 189), Option.some (Value.str ("FiveError") 197), Option.some (Value.builtin "ValueError.__new__"), Option.some (Value.bool Bool.true)] }) ::
  (nat_lit 31, { cls := Value.type "cell", data := Data.cell (Option.some (Value.ref 46)) }) ::
  (nat_lit 42, { cls := Value.type "code", data := Data.fields #[Value.str ("__init__") 219, Value.str ("BadNames.__init__") 220, Value.str ("/claim/cut.py") 221, Value.int 6 0, Value.int 2 0, Value.int 0 0, Value.int 0 0, Value.int 3 0, Value.ref 37, Value.bool Bool.true, Value.int 181 0, Value.ref 38, Value.none, Value.ref 39, Value.ref 40, Value.ref 41, Value.int 225 0, Value.int 6 0, Value.str ("/claim/cut.py") 226] }) ::
  (nat_lit 43, { cls := Value.type "function", data := Data.func (ksFn ("__init__") ("BadNames.__init__") (FX.xA ("names") { line := 6, col := 17, endLine := 6, endCol := 21 } { line := 6, col := 23, endLine := 6, endCol := 28 }) (FX.xB ("names") ("no names") { line := 7, col := 8, endLine := 7, endCol := 13 } { line := 7, col := 8, endLine := 7, endCol := 15 } { line := 7, col := 8, endLine := 7, endCol := 24 } { line := 7, col := 25, endLine := 7, endCol := 35 } { line := 7, col := 8, endLine := 7, endCol := 36 } { line := 7, col := 8, endLine := 7, endCol := 36 } { line := 8, col := 8, endLine := 8, endCol := 12 } { line := 8, col := 8, endLine := 8, endCol := 18 } { line := 8, col := 21, endLine := 8, endCol := 26 } { line := 8, col := 8, endLine := 8, endCol := 26 }) (FX.xS ("names")) Value.none Value.none Value.none (Value.str ("eachfive.errors") 187) Option.none (Value.ref 42) (Value.ref 36) 31) }) ::
  (nat_lit 45, { cls := Value.type "dict", data := Data.dict #[{ hash := PyData.keyHash P ("__module__"), key := Value.str ("__module__") 214, val := Value.str ("eachfive.errors") 187 }, { hash := PyData.keyHash P ("__firstlineno__"), key := Value.str ("__firstlineno__") 218, val := Value.int 4 217 }, { hash := PyData.keyHash P ("__init__"), key := Value.str ("__init__") 227, val := Value.ref 43 }, { hash := PyData.keyHash P ("__static_attributes__"), key := Value.str ("__static_attributes__") 229, val := Value.ref 44 }, { hash := PyData.keyHash P ("__doc__"), key := Value.str ("__doc__") 231, val := Value.none }] 3 }) ::
  (nat_lit 46, { cls := Value.type "type", data := Data.cls { name := "BadNames", bases := [Value.ref 24], mro := [Value.ref 46, Value.ref 24, Value.type "ValueError", Value.type "Exception", Value.type "BaseException", Value.type "object"], ns := 45, qualname := "BadNames" }, slots := #[Option.some (Value.ref 28), Option.none, Option.some (Value.str ("BadNames") 207), Option.some (Value.str ("BadNames") 215), Option.some (Value.builtin "ValueError.__new__"), Option.some (Value.bool Bool.true)] }) ::
  (nat_lit 52, { cls := Value.type "cell", data := Data.cell (Option.some (Value.ref 67)) }) ::
  (nat_lit 63, { cls := Value.type "code", data := Data.fields #[Value.str ("__init__") 246, Value.str ("BadEights.__init__") 247, Value.str ("/claim/cut.py") 248, Value.int 11 0, Value.int 2 0, Value.int 0 0, Value.int 0 0, Value.int 3 0, Value.ref 58, Value.bool Bool.true, Value.int 181 0, Value.ref 59, Value.none, Value.ref 60, Value.ref 61, Value.ref 62, Value.int 252 0, Value.int 11 0, Value.str ("/claim/cut.py") 253] }) ::
  (nat_lit 64, { cls := Value.type "function", data := Data.func (ksFn ("__init__") ("BadEights.__init__") (FX.xA ("eights") { line := 11, col := 17, endLine := 11, endCol := 21 } { line := 11, col := 23, endLine := 11, endCol := 29 }) (FX.xB ("eights") ("no eights") { line := 12, col := 8, endLine := 12, endCol := 13 } { line := 12, col := 8, endLine := 12, endCol := 15 } { line := 12, col := 8, endLine := 12, endCol := 24 } { line := 12, col := 25, endLine := 12, endCol := 36 } { line := 12, col := 8, endLine := 12, endCol := 37 } { line := 12, col := 8, endLine := 12, endCol := 37 } { line := 13, col := 8, endLine := 13, endCol := 12 } { line := 13, col := 8, endLine := 13, endCol := 19 } { line := 13, col := 22, endLine := 13, endCol := 28 } { line := 13, col := 8, endLine := 13, endCol := 28 }) (FX.xS ("eights")) Value.none Value.none Value.none (Value.str ("eachfive.errors") 187) Option.none (Value.ref 63) (Value.ref 57) 52) }) ::
  (nat_lit 66, { cls := Value.type "dict", data := Data.dict #[{ hash := PyData.keyHash P ("__module__"), key := Value.str ("__module__") 241, val := Value.str ("eachfive.errors") 187 }, { hash := PyData.keyHash P ("__firstlineno__"), key := Value.str ("__firstlineno__") 245, val := Value.int 9 244 }, { hash := PyData.keyHash P ("__init__"), key := Value.str ("__init__") 254, val := Value.ref 64 }, { hash := PyData.keyHash P ("__static_attributes__"), key := Value.str ("__static_attributes__") 256, val := Value.ref 65 }, { hash := PyData.keyHash P ("__doc__"), key := Value.str ("__doc__") 258, val := Value.none }] 3 }) ::
  (nat_lit 67, { cls := Value.type "type", data := Data.cls { name := "BadEights", bases := [Value.ref 24], mro := [Value.ref 67, Value.ref 24, Value.type "ValueError", Value.type "Exception", Value.type "BaseException", Value.type "object"], ns := 66, qualname := "BadEights" }, slots := #[Option.some (Value.ref 49), Option.none, Option.some (Value.str ("BadEights") 234), Option.some (Value.str ("BadEights") 242), Option.some (Value.builtin "ValueError.__new__"), Option.some (Value.bool Bool.true)] }) ::
  (nat_lit 73, { cls := Value.type "cell", data := Data.cell (Option.some (Value.ref 88)) }) ::
  (nat_lit 84, { cls := Value.type "code", data := Data.fields #[Value.str ("__init__") 273, Value.str ("NoName.__init__") 274, Value.str ("/claim/cut.py") 275, Value.int 16 0, Value.int 2 0, Value.int 0 0, Value.int 0 0, Value.int 3 0, Value.ref 79, Value.bool Bool.true, Value.int 181 0, Value.ref 80, Value.none, Value.ref 81, Value.ref 82, Value.ref 83, Value.int 279 0, Value.int 16 0, Value.str ("/claim/cut.py") 280] }) ::
  (nat_lit 85, { cls := Value.type "function", data := Data.func (ksFn ("__init__") ("NoName.__init__") (FX.xA ("name") { line := 16, col := 17, endLine := 16, endCol := 21 } { line := 16, col := 23, endLine := 16, endCol := 27 }) (FX.xB ("name") ("no name of the system") { line := 17, col := 8, endLine := 17, endCol := 13 } { line := 17, col := 8, endLine := 17, endCol := 15 } { line := 17, col := 8, endLine := 17, endCol := 24 } { line := 17, col := 25, endLine := 17, endCol := 48 } { line := 17, col := 8, endLine := 17, endCol := 49 } { line := 17, col := 8, endLine := 17, endCol := 49 } { line := 18, col := 8, endLine := 18, endCol := 12 } { line := 18, col := 8, endLine := 18, endCol := 17 } { line := 18, col := 20, endLine := 18, endCol := 24 } { line := 18, col := 8, endLine := 18, endCol := 24 }) (FX.xS ("name")) Value.none Value.none Value.none (Value.str ("eachfive.errors") 187) Option.none (Value.ref 84) (Value.ref 78) 73) }) ::
  (nat_lit 87, { cls := Value.type "dict", data := Data.dict #[{ hash := PyData.keyHash P ("__module__"), key := Value.str ("__module__") 268, val := Value.str ("eachfive.errors") 187 }, { hash := PyData.keyHash P ("__firstlineno__"), key := Value.str ("__firstlineno__") 272, val := Value.int 14 271 }, { hash := PyData.keyHash P ("__init__"), key := Value.str ("__init__") 281, val := Value.ref 85 }, { hash := PyData.keyHash P ("__static_attributes__"), key := Value.str ("__static_attributes__") 283, val := Value.ref 86 }, { hash := PyData.keyHash P ("__doc__"), key := Value.str ("__doc__") 285, val := Value.none }] 3 }) ::
  (nat_lit 88, { cls := Value.type "type", data := Data.cls { name := "NoName", bases := [Value.ref 24], mro := [Value.ref 88, Value.ref 24, Value.type "ValueError", Value.type "Exception", Value.type "BaseException", Value.type "object"], ns := 87, qualname := "NoName" }, slots := #[Option.some (Value.ref 70), Option.none, Option.some (Value.str ("NoName") 261), Option.some (Value.str ("NoName") 269), Option.some (Value.builtin "ValueError.__new__"), Option.some (Value.bool Bool.true)] }) ::
  (nat_lit 94, { cls := Value.type "cell", data := Data.cell (Option.some (Value.ref 109)) }) ::
  (nat_lit 105, { cls := Value.type "code", data := Data.fields #[Value.str ("__init__") 300, Value.str ("BadLot.__init__") 301, Value.str ("/claim/cut.py") 302, Value.int 21 0, Value.int 2 0, Value.int 0 0, Value.int 0 0, Value.int 3 0, Value.ref 100, Value.bool Bool.true, Value.int 181 0, Value.ref 101, Value.none, Value.ref 102, Value.ref 103, Value.ref 104, Value.int 306 0, Value.int 21 0, Value.str ("/claim/cut.py") 307] }) ::
  (nat_lit 106, { cls := Value.type "function", data := Data.func (ksFn ("__init__") ("BadLot.__init__") (FX.xA ("lot") { line := 21, col := 17, endLine := 21, endCol := 21 } { line := 21, col := 23, endLine := 21, endCol := 26 }) (FX.xB ("lot") ("no lot") { line := 22, col := 8, endLine := 22, endCol := 13 } { line := 22, col := 8, endLine := 22, endCol := 15 } { line := 22, col := 8, endLine := 22, endCol := 24 } { line := 22, col := 25, endLine := 22, endCol := 33 } { line := 22, col := 8, endLine := 22, endCol := 34 } { line := 22, col := 8, endLine := 22, endCol := 34 } { line := 23, col := 8, endLine := 23, endCol := 12 } { line := 23, col := 8, endLine := 23, endCol := 16 } { line := 23, col := 19, endLine := 23, endCol := 22 } { line := 23, col := 8, endLine := 23, endCol := 22 }) (FX.xS ("lot")) Value.none Value.none Value.none (Value.str ("eachfive.errors") 187) Option.none (Value.ref 105) (Value.ref 99) 94) }) ::
  (nat_lit 108, { cls := Value.type "dict", data := Data.dict #[{ hash := PyData.keyHash P ("__module__"), key := Value.str ("__module__") 295, val := Value.str ("eachfive.errors") 187 }, { hash := PyData.keyHash P ("__firstlineno__"), key := Value.str ("__firstlineno__") 299, val := Value.int 19 298 }, { hash := PyData.keyHash P ("__init__"), key := Value.str ("__init__") 308, val := Value.ref 106 }, { hash := PyData.keyHash P ("__static_attributes__"), key := Value.str ("__static_attributes__") 310, val := Value.ref 107 }, { hash := PyData.keyHash P ("__doc__"), key := Value.str ("__doc__") 312, val := Value.none }] 3 }) ::
  (nat_lit 109, { cls := Value.type "type", data := Data.cls { name := "BadLot", bases := [Value.ref 24], mro := [Value.ref 109, Value.ref 24, Value.type "ValueError", Value.type "Exception", Value.type "BaseException", Value.type "object"], ns := 108, qualname := "BadLot" }, slots := #[Option.some (Value.ref 91), Option.none, Option.some (Value.str ("BadLot") 288), Option.some (Value.str ("BadLot") 296), Option.some (Value.builtin "ValueError.__new__"), Option.some (Value.bool Bool.true)] }) ::
  (nat_lit 115, { cls := Value.type "cell", data := Data.cell (Option.some (Value.ref 130)) }) ::
  (nat_lit 126, { cls := Value.type "code", data := Data.fields #[Value.str ("__init__") 327, Value.str ("BadFive.__init__") 328, Value.str ("/claim/cut.py") 329, Value.int 26 0, Value.int 2 0, Value.int 0 0, Value.int 0 0, Value.int 3 0, Value.ref 121, Value.bool Bool.true, Value.int 181 0, Value.ref 122, Value.none, Value.ref 123, Value.ref 124, Value.ref 125, Value.int 333 0, Value.int 26 0, Value.str ("/claim/cut.py") 334] }) ::
  (nat_lit 127, { cls := Value.type "function", data := Data.func (ksFn ("__init__") ("BadFive.__init__") (FX.xA ("five") { line := 26, col := 17, endLine := 26, endCol := 21 } { line := 26, col := 23, endLine := 26, endCol := 27 }) (FX.xB ("five") ("no five unlike names of the system") { line := 27, col := 8, endLine := 27, endCol := 13 } { line := 27, col := 8, endLine := 27, endCol := 15 } { line := 27, col := 8, endLine := 27, endCol := 24 } { line := 27, col := 25, endLine := 27, endCol := 61 } { line := 27, col := 8, endLine := 27, endCol := 62 } { line := 27, col := 8, endLine := 27, endCol := 62 } { line := 28, col := 8, endLine := 28, endCol := 12 } { line := 28, col := 8, endLine := 28, endCol := 17 } { line := 28, col := 20, endLine := 28, endCol := 24 } { line := 28, col := 8, endLine := 28, endCol := 24 }) (FX.xS ("five")) Value.none Value.none Value.none (Value.str ("eachfive.errors") 187) Option.none (Value.ref 126) (Value.ref 120) 115) }) ::
  (nat_lit 129, { cls := Value.type "dict", data := Data.dict #[{ hash := PyData.keyHash P ("__module__"), key := Value.str ("__module__") 322, val := Value.str ("eachfive.errors") 187 }, { hash := PyData.keyHash P ("__firstlineno__"), key := Value.str ("__firstlineno__") 326, val := Value.int 24 325 }, { hash := PyData.keyHash P ("__init__"), key := Value.str ("__init__") 335, val := Value.ref 127 }, { hash := PyData.keyHash P ("__static_attributes__"), key := Value.str ("__static_attributes__") 337, val := Value.ref 128 }, { hash := PyData.keyHash P ("__doc__"), key := Value.str ("__doc__") 339, val := Value.none }] 3 }) ::
  (nat_lit 130, { cls := Value.type "type", data := Data.cls { name := "BadFive", bases := [Value.ref 24], mro := [Value.ref 130, Value.ref 24, Value.type "ValueError", Value.type "Exception", Value.type "BaseException", Value.type "object"], ns := 129, qualname := "BadFive" }, slots := #[Option.some (Value.ref 112), Option.none, Option.some (Value.str ("BadFive") 315), Option.some (Value.str ("BadFive") 323), Option.some (Value.builtin "ValueError.__new__"), Option.some (Value.bool Bool.true)] }) ::
  (nat_lit 136, { cls := Value.type "cell", data := Data.cell (Option.some (Value.ref 151)) }) ::
  (nat_lit 147, { cls := Value.type "code", data := Data.fields #[Value.str ("__init__") 354, Value.str ("BadImage.__init__") 355, Value.str ("/claim/cut.py") 356, Value.int 31 0, Value.int 2 0, Value.int 0 0, Value.int 0 0, Value.int 3 0, Value.ref 142, Value.bool Bool.true, Value.int 181 0, Value.ref 143, Value.none, Value.ref 144, Value.ref 145, Value.ref 146, Value.int 360 0, Value.int 31 0, Value.str ("/claim/cut.py") 361] }) ::
  (nat_lit 148, { cls := Value.type "function", data := Data.func (ksFn ("__init__") ("BadImage.__init__") (FX.xA ("image") { line := 31, col := 17, endLine := 31, endCol := 21 } { line := 31, col := 23, endLine := 31, endCol := 28 }) (FX.xB ("image") ("no image") { line := 32, col := 8, endLine := 32, endCol := 13 } { line := 32, col := 8, endLine := 32, endCol := 15 } { line := 32, col := 8, endLine := 32, endCol := 24 } { line := 32, col := 25, endLine := 32, endCol := 35 } { line := 32, col := 8, endLine := 32, endCol := 36 } { line := 32, col := 8, endLine := 32, endCol := 36 } { line := 33, col := 8, endLine := 33, endCol := 12 } { line := 33, col := 8, endLine := 33, endCol := 18 } { line := 33, col := 21, endLine := 33, endCol := 26 } { line := 33, col := 8, endLine := 33, endCol := 26 }) (FX.xS ("image")) Value.none Value.none Value.none (Value.str ("eachfive.errors") 187) Option.none (Value.ref 147) (Value.ref 141) 136) }) ::
  (nat_lit 150, { cls := Value.type "dict", data := Data.dict #[{ hash := PyData.keyHash P ("__module__"), key := Value.str ("__module__") 349, val := Value.str ("eachfive.errors") 187 }, { hash := PyData.keyHash P ("__firstlineno__"), key := Value.str ("__firstlineno__") 353, val := Value.int 29 352 }, { hash := PyData.keyHash P ("__init__"), key := Value.str ("__init__") 362, val := Value.ref 148 }, { hash := PyData.keyHash P ("__static_attributes__"), key := Value.str ("__static_attributes__") 364, val := Value.ref 149 }, { hash := PyData.keyHash P ("__doc__"), key := Value.str ("__doc__") 366, val := Value.none }] 3 }) ::
  (nat_lit 151, { cls := Value.type "type", data := Data.cls { name := "BadImage", bases := [Value.ref 24], mro := [Value.ref 151, Value.ref 24, Value.type "ValueError", Value.type "Exception", Value.type "BaseException", Value.type "object"], ns := 150, qualname := "BadImage" }, slots := #[Option.some (Value.ref 133), Option.none, Option.some (Value.str ("BadImage") 342), Option.some (Value.str ("BadImage") 350), Option.some (Value.builtin "ValueError.__new__"), Option.some (Value.bool Bool.true)] }) ::
  (nat_lit 157, { cls := Value.type "cell", data := Data.cell (Option.some (Value.ref 172)) }) ::
  (nat_lit 168, { cls := Value.type "code", data := Data.fields #[Value.str ("__init__") 381, Value.str ("BadNumber.__init__") 382, Value.str ("/claim/cut.py") 383, Value.int 36 0, Value.int 2 0, Value.int 0 0, Value.int 0 0, Value.int 3 0, Value.ref 163, Value.bool Bool.true, Value.int 181 0, Value.ref 164, Value.none, Value.ref 165, Value.ref 166, Value.ref 167, Value.int 387 0, Value.int 36 0, Value.str ("/claim/cut.py") 388] }) ::
  (nat_lit 169, { cls := Value.type "function", data := Data.func (ksFn ("__init__") ("BadNumber.__init__") (FX.xA ("number") { line := 36, col := 17, endLine := 36, endCol := 21 } { line := 36, col := 23, endLine := 36, endCol := 29 }) (FX.xB ("number") ("no number") { line := 37, col := 8, endLine := 37, endCol := 13 } { line := 37, col := 8, endLine := 37, endCol := 15 } { line := 37, col := 8, endLine := 37, endCol := 24 } { line := 37, col := 25, endLine := 37, endCol := 36 } { line := 37, col := 8, endLine := 37, endCol := 37 } { line := 37, col := 8, endLine := 37, endCol := 37 } { line := 38, col := 8, endLine := 38, endCol := 12 } { line := 38, col := 8, endLine := 38, endCol := 19 } { line := 38, col := 22, endLine := 38, endCol := 28 } { line := 38, col := 8, endLine := 38, endCol := 28 }) (FX.xS ("number")) Value.none Value.none Value.none (Value.str ("eachfive.errors") 187) Option.none (Value.ref 168) (Value.ref 162) 157) }) ::
  (nat_lit 171, { cls := Value.type "dict", data := Data.dict #[{ hash := PyData.keyHash P ("__module__"), key := Value.str ("__module__") 376, val := Value.str ("eachfive.errors") 187 }, { hash := PyData.keyHash P ("__firstlineno__"), key := Value.str ("__firstlineno__") 380, val := Value.int 34 379 }, { hash := PyData.keyHash P ("__init__"), key := Value.str ("__init__") 389, val := Value.ref 169 }, { hash := PyData.keyHash P ("__static_attributes__"), key := Value.str ("__static_attributes__") 391, val := Value.ref 170 }, { hash := PyData.keyHash P ("__doc__"), key := Value.str ("__doc__") 393, val := Value.none }] 3 }) ::
  (nat_lit 172, { cls := Value.type "type", data := Data.cls { name := "BadNumber", bases := [Value.ref 24], mro := [Value.ref 172, Value.ref 24, Value.type "ValueError", Value.type "Exception", Value.type "BaseException", Value.type "object"], ns := 171, qualname := "BadNumber" }, slots := #[Option.some (Value.ref 154), Option.none, Option.some (Value.str ("BadNumber") 369), Option.some (Value.str ("BadNumber") 377), Option.some (Value.builtin "ValueError.__new__"), Option.some (Value.bool Bool.true)] }) ::
  (nat_lit 178, { cls := Value.type "cell", data := Data.cell (Option.some (Value.ref 193)) }) ::
  (nat_lit 189, { cls := Value.type "code", data := Data.fields #[Value.str ("__init__") 408, Value.str ("BadEight.__init__") 409, Value.str ("/claim/cut.py") 410, Value.int 41 0, Value.int 2 0, Value.int 0 0, Value.int 0 0, Value.int 3 0, Value.ref 184, Value.bool Bool.true, Value.int 181 0, Value.ref 185, Value.none, Value.ref 186, Value.ref 187, Value.ref 188, Value.int 414 0, Value.int 41 0, Value.str ("/claim/cut.py") 415] }) ::
  (nat_lit 190, { cls := Value.type "function", data := Data.func (ksFn ("__init__") ("BadEight.__init__") (FX.xA ("eight") { line := 41, col := 17, endLine := 41, endCol := 21 } { line := 41, col := 23, endLine := 41, endCol := 28 }) (FX.xB ("eight") ("no eight of the system") { line := 42, col := 8, endLine := 42, endCol := 13 } { line := 42, col := 8, endLine := 42, endCol := 15 } { line := 42, col := 8, endLine := 42, endCol := 24 } { line := 42, col := 25, endLine := 42, endCol := 49 } { line := 42, col := 8, endLine := 42, endCol := 50 } { line := 42, col := 8, endLine := 42, endCol := 50 } { line := 43, col := 8, endLine := 43, endCol := 12 } { line := 43, col := 8, endLine := 43, endCol := 18 } { line := 43, col := 21, endLine := 43, endCol := 26 } { line := 43, col := 8, endLine := 43, endCol := 26 }) (FX.xS ("eight")) Value.none Value.none Value.none (Value.str ("eachfive.errors") 187) Option.none (Value.ref 189) (Value.ref 183) 178) }) ::
  (nat_lit 192, { cls := Value.type "dict", data := Data.dict #[{ hash := PyData.keyHash P ("__module__"), key := Value.str ("__module__") 403, val := Value.str ("eachfive.errors") 187 }, { hash := PyData.keyHash P ("__firstlineno__"), key := Value.str ("__firstlineno__") 407, val := Value.int 39 406 }, { hash := PyData.keyHash P ("__init__"), key := Value.str ("__init__") 416, val := Value.ref 190 }, { hash := PyData.keyHash P ("__static_attributes__"), key := Value.str ("__static_attributes__") 418, val := Value.ref 191 }, { hash := PyData.keyHash P ("__doc__"), key := Value.str ("__doc__") 420, val := Value.none }] 3 }) ::
  (nat_lit 193, { cls := Value.type "type", data := Data.cls { name := "BadEight", bases := [Value.ref 24], mro := [Value.ref 193, Value.ref 24, Value.type "ValueError", Value.type "Exception", Value.type "BaseException", Value.type "object"], ns := 192, qualname := "BadEight" }, slots := #[Option.some (Value.ref 175), Option.none, Option.some (Value.str ("BadEight") 396), Option.some (Value.str ("BadEight") 404), Option.some (Value.builtin "ValueError.__new__"), Option.some (Value.bool Bool.true)] }) ::
  (nat_lit 199, { cls := Value.type "cell", data := Data.cell (Option.some (Value.ref 214)) }) ::
  (nat_lit 210, { cls := Value.type "code", data := Data.fields #[Value.str ("__init__") 435, Value.str ("BadRows.__init__") 436, Value.str ("/claim/cut.py") 437, Value.int 46 0, Value.int 2 0, Value.int 0 0, Value.int 0 0, Value.int 3 0, Value.ref 205, Value.bool Bool.true, Value.int 181 0, Value.ref 206, Value.none, Value.ref 207, Value.ref 208, Value.ref 209, Value.int 441 0, Value.int 46 0, Value.str ("/claim/cut.py") 442] }) ::
  (nat_lit 211, { cls := Value.type "function", data := Data.func (ksFn ("__init__") ("BadRows.__init__") (FX.xA ("rows") { line := 46, col := 17, endLine := 46, endCol := 21 } { line := 46, col := 23, endLine := 46, endCol := 27 }) (FX.xB ("rows") ("no rows of the system") { line := 47, col := 8, endLine := 47, endCol := 13 } { line := 47, col := 8, endLine := 47, endCol := 15 } { line := 47, col := 8, endLine := 47, endCol := 24 } { line := 47, col := 25, endLine := 47, endCol := 48 } { line := 47, col := 8, endLine := 47, endCol := 49 } { line := 47, col := 8, endLine := 47, endCol := 49 } { line := 48, col := 8, endLine := 48, endCol := 12 } { line := 48, col := 8, endLine := 48, endCol := 17 } { line := 48, col := 20, endLine := 48, endCol := 24 } { line := 48, col := 8, endLine := 48, endCol := 24 }) (FX.xS ("rows")) Value.none Value.none Value.none (Value.str ("eachfive.errors") 187) Option.none (Value.ref 210) (Value.ref 204) 199) }) ::
  (nat_lit 213, { cls := Value.type "dict", data := Data.dict #[{ hash := PyData.keyHash P ("__module__"), key := Value.str ("__module__") 430, val := Value.str ("eachfive.errors") 187 }, { hash := PyData.keyHash P ("__firstlineno__"), key := Value.str ("__firstlineno__") 434, val := Value.int 44 433 }, { hash := PyData.keyHash P ("__init__"), key := Value.str ("__init__") 443, val := Value.ref 211 }, { hash := PyData.keyHash P ("__static_attributes__"), key := Value.str ("__static_attributes__") 445, val := Value.ref 212 }, { hash := PyData.keyHash P ("__doc__"), key := Value.str ("__doc__") 447, val := Value.none }] 3 }) ::
  (nat_lit 214, { cls := Value.type "type", data := Data.cls { name := "BadRows", bases := [Value.ref 24], mro := [Value.ref 214, Value.ref 24, Value.type "ValueError", Value.type "Exception", Value.type "BaseException", Value.type "object"], ns := 213, qualname := "BadRows" }, slots := #[Option.some (Value.ref 196), Option.none, Option.some (Value.str ("BadRows") 423), Option.some (Value.str ("BadRows") 431), Option.some (Value.builtin "ValueError.__new__"), Option.some (Value.bool Bool.true)] }) ::
  (nat_lit 220, { cls := Value.type "cell", data := Data.cell (Option.some (Value.ref 235)) }) ::
  (nat_lit 231, { cls := Value.type "code", data := Data.fields #[Value.str ("__init__") 462, Value.str ("BadSeven.__init__") 463, Value.str ("/claim/cut.py") 464, Value.int 51 0, Value.int 2 0, Value.int 0 0, Value.int 0 0, Value.int 3 0, Value.ref 226, Value.bool Bool.true, Value.int 181 0, Value.ref 227, Value.none, Value.ref 228, Value.ref 229, Value.ref 230, Value.int 468 0, Value.int 51 0, Value.str ("/claim/cut.py") 469] }) ::
  (nat_lit 232, { cls := Value.type "function", data := Data.func (ksFn ("__init__") ("BadSeven.__init__") (FX.xA ("seven") { line := 51, col := 17, endLine := 51, endCol := 21 } { line := 51, col := 23, endLine := 51, endCol := 28 }) (FX.xB ("seven") ("no proper seven") { line := 52, col := 8, endLine := 52, endCol := 13 } { line := 52, col := 8, endLine := 52, endCol := 15 } { line := 52, col := 8, endLine := 52, endCol := 24 } { line := 52, col := 25, endLine := 52, endCol := 42 } { line := 52, col := 8, endLine := 52, endCol := 43 } { line := 52, col := 8, endLine := 52, endCol := 43 } { line := 53, col := 8, endLine := 53, endCol := 12 } { line := 53, col := 8, endLine := 53, endCol := 18 } { line := 53, col := 21, endLine := 53, endCol := 26 } { line := 53, col := 8, endLine := 53, endCol := 26 }) (FX.xS ("seven")) Value.none Value.none Value.none (Value.str ("eachfive.errors") 187) Option.none (Value.ref 231) (Value.ref 225) 220) }) ::
  (nat_lit 234, { cls := Value.type "dict", data := Data.dict #[{ hash := PyData.keyHash P ("__module__"), key := Value.str ("__module__") 457, val := Value.str ("eachfive.errors") 187 }, { hash := PyData.keyHash P ("__firstlineno__"), key := Value.str ("__firstlineno__") 461, val := Value.int 49 460 }, { hash := PyData.keyHash P ("__init__"), key := Value.str ("__init__") 470, val := Value.ref 232 }, { hash := PyData.keyHash P ("__static_attributes__"), key := Value.str ("__static_attributes__") 472, val := Value.ref 233 }, { hash := PyData.keyHash P ("__doc__"), key := Value.str ("__doc__") 474, val := Value.none }] 3 }) ::
  (nat_lit 235, { cls := Value.type "type", data := Data.cls { name := "BadSeven", bases := [Value.ref 24], mro := [Value.ref 235, Value.ref 24, Value.type "ValueError", Value.type "Exception", Value.type "BaseException", Value.type "object"], ns := 234, qualname := "BadSeven" }, slots := #[Option.some (Value.ref 217), Option.none, Option.some (Value.str ("BadSeven") 450), Option.some (Value.str ("BadSeven") 458), Option.some (Value.builtin "ValueError.__new__"), Option.some (Value.bool Bool.true)] }) ::
  (nat_lit 241, { cls := Value.type "cell", data := Data.cell (Option.some (Value.ref 256)) }) ::
  (nat_lit 252, { cls := Value.type "code", data := Data.fields #[Value.str ("__init__") 489, Value.str ("BadMap.__init__") 490, Value.str ("/claim/cut.py") 491, Value.int 56 0, Value.int 2 0, Value.int 0 0, Value.int 0 0, Value.int 3 0, Value.ref 247, Value.bool Bool.true, Value.int 181 0, Value.ref 248, Value.none, Value.ref 249, Value.ref 250, Value.ref 251, Value.int 495 0, Value.int 56 0, Value.str ("/claim/cut.py") 496] }) ::
  (nat_lit 253, { cls := Value.type "function", data := Data.func (ksFn ("__init__") ("BadMap.__init__") (FX.xA ("own_map") { line := 56, col := 17, endLine := 56, endCol := 21 } { line := 56, col := 23, endLine := 56, endCol := 30 }) (FX.xB ("own_map") ("no map") { line := 57, col := 8, endLine := 57, endCol := 13 } { line := 57, col := 8, endLine := 57, endCol := 15 } { line := 57, col := 8, endLine := 57, endCol := 24 } { line := 57, col := 25, endLine := 57, endCol := 33 } { line := 57, col := 8, endLine := 57, endCol := 34 } { line := 57, col := 8, endLine := 57, endCol := 34 } { line := 58, col := 8, endLine := 58, endCol := 12 } { line := 58, col := 8, endLine := 58, endCol := 20 } { line := 58, col := 23, endLine := 58, endCol := 30 } { line := 58, col := 8, endLine := 58, endCol := 30 }) (FX.xS ("own_map")) Value.none Value.none Value.none (Value.str ("eachfive.errors") 187) Option.none (Value.ref 252) (Value.ref 246) 241) }) ::
  (nat_lit 255, { cls := Value.type "dict", data := Data.dict #[{ hash := PyData.keyHash P ("__module__"), key := Value.str ("__module__") 484, val := Value.str ("eachfive.errors") 187 }, { hash := PyData.keyHash P ("__firstlineno__"), key := Value.str ("__firstlineno__") 488, val := Value.int 54 487 }, { hash := PyData.keyHash P ("__init__"), key := Value.str ("__init__") 497, val := Value.ref 253 }, { hash := PyData.keyHash P ("__static_attributes__"), key := Value.str ("__static_attributes__") 499, val := Value.ref 254 }, { hash := PyData.keyHash P ("__doc__"), key := Value.str ("__doc__") 501, val := Value.none }] 3 }) ::
  (nat_lit 256, { cls := Value.type "type", data := Data.cls { name := "BadMap", bases := [Value.ref 24], mro := [Value.ref 256, Value.ref 24, Value.type "ValueError", Value.type "Exception", Value.type "BaseException", Value.type "object"], ns := 255, qualname := "BadMap" }, slots := #[Option.some (Value.ref 238), Option.none, Option.some (Value.str ("BadMap") 477), Option.some (Value.str ("BadMap") 485), Option.some (Value.builtin "ValueError.__new__"), Option.some (Value.bool Bool.true)] }) ::
  (nat_lit 262, { cls := Value.type "cell", data := Data.cell (Option.some (Value.ref 277)) }) ::
  (nat_lit 273, { cls := Value.type "code", data := Data.fields #[Value.str ("__init__") 516, Value.str ("BadSigns.__init__") 517, Value.str ("/claim/cut.py") 518, Value.int 61 0, Value.int 2 0, Value.int 0 0, Value.int 0 0, Value.int 3 0, Value.ref 268, Value.bool Bool.true, Value.int 181 0, Value.ref 269, Value.none, Value.ref 270, Value.ref 271, Value.ref 272, Value.int 522 0, Value.int 61 0, Value.str ("/claim/cut.py") 523] }) ::
  (nat_lit 274, { cls := Value.type "function", data := Data.func (ksFn ("__init__") ("BadSigns.__init__") (FX.xA ("signs") { line := 61, col := 17, endLine := 61, endCol := 21 } { line := 61, col := 23, endLine := 61, endCol := 28 }) (FX.xB ("signs") ("no signs") { line := 62, col := 8, endLine := 62, endCol := 13 } { line := 62, col := 8, endLine := 62, endCol := 15 } { line := 62, col := 8, endLine := 62, endCol := 24 } { line := 62, col := 25, endLine := 62, endCol := 35 } { line := 62, col := 8, endLine := 62, endCol := 36 } { line := 62, col := 8, endLine := 62, endCol := 36 } { line := 63, col := 8, endLine := 63, endCol := 12 } { line := 63, col := 8, endLine := 63, endCol := 18 } { line := 63, col := 21, endLine := 63, endCol := 26 } { line := 63, col := 8, endLine := 63, endCol := 26 }) (FX.xS ("signs")) Value.none Value.none Value.none (Value.str ("eachfive.errors") 187) Option.none (Value.ref 273) (Value.ref 267) 262) }) ::
  (nat_lit 276, { cls := Value.type "dict", data := Data.dict #[{ hash := PyData.keyHash P ("__module__"), key := Value.str ("__module__") 511, val := Value.str ("eachfive.errors") 187 }, { hash := PyData.keyHash P ("__firstlineno__"), key := Value.str ("__firstlineno__") 515, val := Value.int 59 514 }, { hash := PyData.keyHash P ("__init__"), key := Value.str ("__init__") 524, val := Value.ref 274 }, { hash := PyData.keyHash P ("__static_attributes__"), key := Value.str ("__static_attributes__") 526, val := Value.ref 275 }, { hash := PyData.keyHash P ("__doc__"), key := Value.str ("__doc__") 528, val := Value.none }] 3 }) ::
  (nat_lit 277, { cls := Value.type "type", data := Data.cls { name := "BadSigns", bases := [Value.ref 24], mro := [Value.ref 277, Value.ref 24, Value.type "ValueError", Value.type "Exception", Value.type "BaseException", Value.type "object"], ns := 276, qualname := "BadSigns" }, slots := #[Option.some (Value.ref 259), Option.none, Option.some (Value.str ("BadSigns") 504), Option.some (Value.str ("BadSigns") 512), Option.some (Value.builtin "ValueError.__new__"), Option.some (Value.bool Bool.true)] }) ::
  (nat_lit 283, { cls := Value.type "cell", data := Data.cell (Option.some (Value.ref 298)) }) ::
  (nat_lit 294, { cls := Value.type "code", data := Data.fields #[Value.str ("__init__") 543, Value.str ("BadNumbers.__init__") 544, Value.str ("/claim/cut.py") 545, Value.int 66 0, Value.int 2 0, Value.int 0 0, Value.int 0 0, Value.int 3 0, Value.ref 289, Value.bool Bool.true, Value.int 181 0, Value.ref 290, Value.none, Value.ref 291, Value.ref 292, Value.ref 293, Value.int 549 0, Value.int 66 0, Value.str ("/claim/cut.py") 550] }) ::
  (nat_lit 295, { cls := Value.type "function", data := Data.func (ksFn ("__init__") ("BadNumbers.__init__") (FX.xA ("numbers") { line := 66, col := 17, endLine := 66, endCol := 21 } { line := 66, col := 23, endLine := 66, endCol := 30 }) (FX.xB ("numbers") ("no list of such numbers") { line := 67, col := 8, endLine := 67, endCol := 13 } { line := 67, col := 8, endLine := 67, endCol := 15 } { line := 67, col := 8, endLine := 67, endCol := 24 } { line := 67, col := 25, endLine := 67, endCol := 50 } { line := 67, col := 8, endLine := 67, endCol := 51 } { line := 67, col := 8, endLine := 67, endCol := 51 } { line := 68, col := 8, endLine := 68, endCol := 12 } { line := 68, col := 8, endLine := 68, endCol := 20 } { line := 68, col := 23, endLine := 68, endCol := 30 } { line := 68, col := 8, endLine := 68, endCol := 30 }) (FX.xS ("numbers")) Value.none Value.none Value.none (Value.str ("eachfive.errors") 187) Option.none (Value.ref 294) (Value.ref 288) 283) }) ::
  (nat_lit 297, { cls := Value.type "dict", data := Data.dict #[{ hash := PyData.keyHash P ("__module__"), key := Value.str ("__module__") 538, val := Value.str ("eachfive.errors") 187 }, { hash := PyData.keyHash P ("__firstlineno__"), key := Value.str ("__firstlineno__") 542, val := Value.int 64 541 }, { hash := PyData.keyHash P ("__init__"), key := Value.str ("__init__") 551, val := Value.ref 295 }, { hash := PyData.keyHash P ("__static_attributes__"), key := Value.str ("__static_attributes__") 553, val := Value.ref 296 }, { hash := PyData.keyHash P ("__doc__"), key := Value.str ("__doc__") 555, val := Value.none }] 3 }) ::
  (nat_lit 298, { cls := Value.type "type", data := Data.cls { name := "BadNumbers", bases := [Value.ref 24], mro := [Value.ref 298, Value.ref 24, Value.type "ValueError", Value.type "Exception", Value.type "BaseException", Value.type "object"], ns := 297, qualname := "BadNumbers" }, slots := #[Option.some (Value.ref 280), Option.none, Option.some (Value.str ("BadNumbers") 531), Option.some (Value.str ("BadNumbers") 539), Option.some (Value.builtin "ValueError.__new__"), Option.some (Value.bool Bool.true)] }) ::
  (nat_lit 304, { cls := Value.type "cell", data := Data.cell (Option.some (Value.ref 319)) }) ::
  (nat_lit 315, { cls := Value.type "code", data := Data.fields #[Value.str ("__init__") 570, Value.str ("BadQuestion.__init__") 571, Value.str ("/claim/cut.py") 572, Value.int 71 0, Value.int 2 0, Value.int 0 0, Value.int 0 0, Value.int 3 0, Value.ref 310, Value.bool Bool.true, Value.int 181 0, Value.ref 311, Value.none, Value.ref 312, Value.ref 313, Value.ref 314, Value.int 576 0, Value.int 71 0, Value.str ("/claim/cut.py") 577] }) ::
  (nat_lit 316, { cls := Value.type "function", data := Data.func (ksFn ("__init__") ("BadQuestion.__init__") (FX.xA ("question") { line := 71, col := 17, endLine := 71, endCol := 21 } { line := 71, col := 23, endLine := 71, endCol := 31 }) (FX.xB ("question") ("no question") { line := 72, col := 8, endLine := 72, endCol := 13 } { line := 72, col := 8, endLine := 72, endCol := 15 } { line := 72, col := 8, endLine := 72, endCol := 24 } { line := 72, col := 25, endLine := 72, endCol := 38 } { line := 72, col := 8, endLine := 72, endCol := 39 } { line := 72, col := 8, endLine := 72, endCol := 39 } { line := 73, col := 8, endLine := 73, endCol := 12 } { line := 73, col := 8, endLine := 73, endCol := 21 } { line := 73, col := 24, endLine := 73, endCol := 32 } { line := 73, col := 8, endLine := 73, endCol := 32 }) (FX.xS ("question")) Value.none Value.none Value.none (Value.str ("eachfive.errors") 187) Option.none (Value.ref 315) (Value.ref 309) 304) }) ::
  (nat_lit 318, { cls := Value.type "dict", data := Data.dict #[{ hash := PyData.keyHash P ("__module__"), key := Value.str ("__module__") 565, val := Value.str ("eachfive.errors") 187 }, { hash := PyData.keyHash P ("__firstlineno__"), key := Value.str ("__firstlineno__") 569, val := Value.int 69 568 }, { hash := PyData.keyHash P ("__init__"), key := Value.str ("__init__") 578, val := Value.ref 316 }, { hash := PyData.keyHash P ("__static_attributes__"), key := Value.str ("__static_attributes__") 580, val := Value.ref 317 }, { hash := PyData.keyHash P ("__doc__"), key := Value.str ("__doc__") 582, val := Value.none }] 3 }) ::
  (nat_lit 319, { cls := Value.type "type", data := Data.cls { name := "BadQuestion", bases := [Value.ref 24], mro := [Value.ref 319, Value.ref 24, Value.type "ValueError", Value.type "Exception", Value.type "BaseException", Value.type "object"], ns := 318, qualname := "BadQuestion" }, slots := #[Option.some (Value.ref 301), Option.none, Option.some (Value.str ("BadQuestion") 558), Option.some (Value.str ("BadQuestion") 566), Option.some (Value.builtin "ValueError.__new__"), Option.some (Value.bool Bool.true)] }) ::
  (nat_lit 325, { cls := Value.type "cell", data := Data.cell (Option.some (Value.ref 340)) }) ::
  (nat_lit 336, { cls := Value.type "code", data := Data.fields #[Value.str ("__init__") 599, Value.str ("BadHalf.__init__") 600, Value.str ("/claim/cut.py") 601, Value.int 77 0, Value.int 2 0, Value.int 0 0, Value.int 0 0, Value.int 3 0, Value.ref 331, Value.bool Bool.true, Value.int 181 0, Value.ref 332, Value.none, Value.ref 333, Value.ref 334, Value.ref 335, Value.int 605 0, Value.int 77 0, Value.str ("/claim/cut.py") 606] }) ::
  (nat_lit 337, { cls := Value.type "function", data := Data.func (ksFn ("__init__") ("BadHalf.__init__") (FX.xA ("half") { line := 77, col := 17, endLine := 77, endCol := 21 } { line := 77, col := 23, endLine := 77, endCol := 27 }) (FX.xB ("half") ("no half") { line := 78, col := 8, endLine := 78, endCol := 13 } { line := 78, col := 8, endLine := 78, endCol := 15 } { line := 78, col := 8, endLine := 78, endCol := 24 } { line := 78, col := 25, endLine := 78, endCol := 34 } { line := 78, col := 8, endLine := 78, endCol := 35 } { line := 78, col := 8, endLine := 78, endCol := 35 } { line := 79, col := 8, endLine := 79, endCol := 12 } { line := 79, col := 8, endLine := 79, endCol := 17 } { line := 79, col := 20, endLine := 79, endCol := 24 } { line := 79, col := 8, endLine := 79, endCol := 24 }) (FX.xS ("half")) Value.none Value.none Value.none (Value.str ("eachfive.halffaults") 585) Option.none (Value.ref 336) (Value.ref 330) 325) }) ::
  (nat_lit 339, { cls := Value.type "dict", data := Data.dict #[{ hash := PyData.keyHash P ("__module__"), key := Value.str ("__module__") 594, val := Value.str ("eachfive.halffaults") 585 }, { hash := PyData.keyHash P ("__firstlineno__"), key := Value.str ("__firstlineno__") 598, val := Value.int 75 597 }, { hash := PyData.keyHash P ("__init__"), key := Value.str ("__init__") 607, val := Value.ref 337 }, { hash := PyData.keyHash P ("__static_attributes__"), key := Value.str ("__static_attributes__") 609, val := Value.ref 338 }, { hash := PyData.keyHash P ("__doc__"), key := Value.str ("__doc__") 611, val := Value.none }] 3 }) ::
  (nat_lit 340, { cls := Value.type "type", data := Data.cls { name := "BadHalf", bases := [Value.ref 24], mro := [Value.ref 340, Value.ref 24, Value.type "ValueError", Value.type "Exception", Value.type "BaseException", Value.type "object"], ns := 339, qualname := "BadHalf" }, slots := #[Option.some (Value.ref 322), Option.none, Option.some (Value.str ("BadHalf") 587), Option.some (Value.str ("BadHalf") 595), Option.some (Value.builtin "ValueError.__new__"), Option.some (Value.bool Bool.true)] }) ::
  (nat_lit 346, { cls := Value.type "cell", data := Data.cell (Option.some (Value.ref 361)) }) ::
  (nat_lit 357, { cls := Value.type "code", data := Data.fields #[Value.str ("__init__") 628, Value.str ("BadFour.__init__") 629, Value.str ("/claim/cut.py") 630, Value.int 83 0, Value.int 2 0, Value.int 0 0, Value.int 0 0, Value.int 3 0, Value.ref 352, Value.bool Bool.true, Value.int 181 0, Value.ref 353, Value.none, Value.ref 354, Value.ref 355, Value.ref 356, Value.int 634 0, Value.int 83 0, Value.str ("/claim/cut.py") 635] }) ::
  (nat_lit 358, { cls := Value.type "function", data := Data.func (ksFn ("__init__") ("BadFour.__init__") (FX.xA ("four") { line := 83, col := 17, endLine := 83, endCol := 21 } { line := 83, col := 23, endLine := 83, endCol := 27 }) (FX.xB ("four") ("no lot of four names") { line := 84, col := 8, endLine := 84, endCol := 13 } { line := 84, col := 8, endLine := 84, endCol := 15 } { line := 84, col := 8, endLine := 84, endCol := 24 } { line := 84, col := 25, endLine := 84, endCol := 47 } { line := 84, col := 8, endLine := 84, endCol := 48 } { line := 84, col := 8, endLine := 84, endCol := 48 } { line := 85, col := 8, endLine := 85, endCol := 12 } { line := 85, col := 8, endLine := 85, endCol := 17 } { line := 85, col := 20, endLine := 85, endCol := 24 } { line := 85, col := 8, endLine := 85, endCol := 24 }) (FX.xS ("four")) Value.none Value.none Value.none (Value.str ("eachfive.partfaults") 614) Option.none (Value.ref 357) (Value.ref 351) 346) }) ::
  (nat_lit 360, { cls := Value.type "dict", data := Data.dict #[{ hash := PyData.keyHash P ("__module__"), key := Value.str ("__module__") 623, val := Value.str ("eachfive.partfaults") 614 }, { hash := PyData.keyHash P ("__firstlineno__"), key := Value.str ("__firstlineno__") 627, val := Value.int 81 626 }, { hash := PyData.keyHash P ("__init__"), key := Value.str ("__init__") 636, val := Value.ref 358 }, { hash := PyData.keyHash P ("__static_attributes__"), key := Value.str ("__static_attributes__") 638, val := Value.ref 359 }, { hash := PyData.keyHash P ("__doc__"), key := Value.str ("__doc__") 640, val := Value.none }] 3 }) ::
  (nat_lit 361, { cls := Value.type "type", data := Data.cls { name := "BadFour", bases := [Value.ref 24], mro := [Value.ref 361, Value.ref 24, Value.type "ValueError", Value.type "Exception", Value.type "BaseException", Value.type "object"], ns := 360, qualname := "BadFour" }, slots := #[Option.some (Value.ref 343), Option.none, Option.some (Value.str ("BadFour") 616), Option.some (Value.str ("BadFour") 624), Option.some (Value.builtin "ValueError.__new__"), Option.some (Value.bool Bool.true)] }) ::
  (nat_lit 367, { cls := Value.type "cell", data := Data.cell (Option.some (Value.ref 382)) }) ::
  (nat_lit 378, { cls := Value.type "code", data := Data.fields #[Value.str ("__init__") 655, Value.str ("BadSextet.__init__") 656, Value.str ("/claim/cut.py") 657, Value.int 88 0, Value.int 2 0, Value.int 0 0, Value.int 0 0, Value.int 3 0, Value.ref 373, Value.bool Bool.true, Value.int 181 0, Value.ref 374, Value.none, Value.ref 375, Value.ref 376, Value.ref 377, Value.int 661 0, Value.int 88 0, Value.str ("/claim/cut.py") 662] }) ::
  (nat_lit 379, { cls := Value.type "function", data := Data.func (ksFn ("__init__") ("BadSextet.__init__") (FX.xA ("sextet") { line := 88, col := 17, endLine := 88, endCol := 21 } { line := 88, col := 23, endLine := 88, endCol := 29 }) (FX.xB ("sextet") ("no sextet") { line := 89, col := 8, endLine := 89, endCol := 13 } { line := 89, col := 8, endLine := 89, endCol := 15 } { line := 89, col := 8, endLine := 89, endCol := 24 } { line := 89, col := 25, endLine := 89, endCol := 36 } { line := 89, col := 8, endLine := 89, endCol := 37 } { line := 89, col := 8, endLine := 89, endCol := 37 } { line := 90, col := 8, endLine := 90, endCol := 12 } { line := 90, col := 8, endLine := 90, endCol := 19 } { line := 90, col := 22, endLine := 90, endCol := 28 } { line := 90, col := 8, endLine := 90, endCol := 28 }) (FX.xS ("sextet")) Value.none Value.none Value.none (Value.str ("eachfive.partfaults") 614) Option.none (Value.ref 378) (Value.ref 372) 367) }) ::
  (nat_lit 381, { cls := Value.type "dict", data := Data.dict #[{ hash := PyData.keyHash P ("__module__"), key := Value.str ("__module__") 650, val := Value.str ("eachfive.partfaults") 614 }, { hash := PyData.keyHash P ("__firstlineno__"), key := Value.str ("__firstlineno__") 654, val := Value.int 86 653 }, { hash := PyData.keyHash P ("__init__"), key := Value.str ("__init__") 663, val := Value.ref 379 }, { hash := PyData.keyHash P ("__static_attributes__"), key := Value.str ("__static_attributes__") 665, val := Value.ref 380 }, { hash := PyData.keyHash P ("__doc__"), key := Value.str ("__doc__") 667, val := Value.none }] 3 }) ::
  (nat_lit 382, { cls := Value.type "type", data := Data.cls { name := "BadSextet", bases := [Value.ref 24], mro := [Value.ref 382, Value.ref 24, Value.type "ValueError", Value.type "Exception", Value.type "BaseException", Value.type "object"], ns := 381, qualname := "BadSextet" }, slots := #[Option.some (Value.ref 364), Option.none, Option.some (Value.str ("BadSextet") 643), Option.some (Value.str ("BadSextet") 651), Option.some (Value.builtin "ValueError.__new__"), Option.some (Value.bool Bool.true)] }) ::
  (nat_lit 388, { cls := Value.type "cell", data := Data.cell (Option.some (Value.ref 403)) }) ::
  (nat_lit 399, { cls := Value.type "code", data := Data.fields #[Value.str ("__init__") 682, Value.str ("BadKind.__init__") 683, Value.str ("/claim/cut.py") 684, Value.int 93 0, Value.int 2 0, Value.int 0 0, Value.int 0 0, Value.int 3 0, Value.ref 394, Value.bool Bool.true, Value.int 181 0, Value.ref 395, Value.none, Value.ref 396, Value.ref 397, Value.ref 398, Value.int 688 0, Value.int 93 0, Value.str ("/claim/cut.py") 689] }) ::
  (nat_lit 400, { cls := Value.type "function", data := Data.func (ksFn ("__init__") ("BadKind.__init__") (FX.xA ("kind") { line := 93, col := 17, endLine := 93, endCol := 21 } { line := 93, col := 23, endLine := 93, endCol := 27 }) (FX.xB ("kind") ("no kind of two sextets") { line := 94, col := 8, endLine := 94, endCol := 13 } { line := 94, col := 8, endLine := 94, endCol := 15 } { line := 94, col := 8, endLine := 94, endCol := 24 } { line := 94, col := 25, endLine := 94, endCol := 49 } { line := 94, col := 8, endLine := 94, endCol := 50 } { line := 94, col := 8, endLine := 94, endCol := 50 } { line := 95, col := 8, endLine := 95, endCol := 12 } { line := 95, col := 8, endLine := 95, endCol := 17 } { line := 95, col := 20, endLine := 95, endCol := 24 } { line := 95, col := 8, endLine := 95, endCol := 24 }) (FX.xS ("kind")) Value.none Value.none Value.none (Value.str ("eachfive.partfaults") 614) Option.none (Value.ref 399) (Value.ref 393) 388) }) ::
  (nat_lit 402, { cls := Value.type "dict", data := Data.dict #[{ hash := PyData.keyHash P ("__module__"), key := Value.str ("__module__") 677, val := Value.str ("eachfive.partfaults") 614 }, { hash := PyData.keyHash P ("__firstlineno__"), key := Value.str ("__firstlineno__") 681, val := Value.int 91 680 }, { hash := PyData.keyHash P ("__init__"), key := Value.str ("__init__") 690, val := Value.ref 400 }, { hash := PyData.keyHash P ("__static_attributes__"), key := Value.str ("__static_attributes__") 692, val := Value.ref 401 }, { hash := PyData.keyHash P ("__doc__"), key := Value.str ("__doc__") 694, val := Value.none }] 3 }) ::
  (nat_lit 403, { cls := Value.type "type", data := Data.cls { name := "BadKind", bases := [Value.ref 24], mro := [Value.ref 403, Value.ref 24, Value.type "ValueError", Value.type "Exception", Value.type "BaseException", Value.type "object"], ns := 402, qualname := "BadKind" }, slots := #[Option.some (Value.ref 385), Option.none, Option.some (Value.str ("BadKind") 670), Option.some (Value.str ("BadKind") 678), Option.some (Value.builtin "ValueError.__new__"), Option.some (Value.bool Bool.true)] }) ::
  (nat_lit 409, { cls := Value.type "cell", data := Data.cell (Option.some (Value.ref 424)) }) ::
  (nat_lit 420, { cls := Value.type "code", data := Data.fields #[Value.str ("__init__") 709, Value.str ("NotApart.__init__") 710, Value.str ("/claim/cut.py") 711, Value.int 98 0, Value.int 2 0, Value.int 0 0, Value.int 0 0, Value.int 3 0, Value.ref 415, Value.bool Bool.true, Value.int 181 0, Value.ref 416, Value.none, Value.ref 417, Value.ref 418, Value.ref 419, Value.int 715 0, Value.int 98 0, Value.str ("/claim/cut.py") 716] }) ::
  (nat_lit 421, { cls := Value.type "function", data := Data.func (ksFn ("__init__") ("NotApart.__init__") (FX.xA ("name") { line := 98, col := 17, endLine := 98, endCol := 21 } { line := 98, col := 23, endLine := 98, endCol := 27 }) (FX.xB ("name") ("a name is in both eights") { line := 99, col := 8, endLine := 99, endCol := 13 } { line := 99, col := 8, endLine := 99, endCol := 15 } { line := 99, col := 8, endLine := 99, endCol := 24 } { line := 99, col := 25, endLine := 99, endCol := 51 } { line := 99, col := 8, endLine := 99, endCol := 52 } { line := 99, col := 8, endLine := 99, endCol := 52 } { line := 100, col := 8, endLine := 100, endCol := 12 } { line := 100, col := 8, endLine := 100, endCol := 17 } { line := 100, col := 20, endLine := 100, endCol := 24 } { line := 100, col := 8, endLine := 100, endCol := 24 }) (FX.xS ("name")) Value.none Value.none Value.none (Value.str ("eachfive.partfaults") 614) Option.none (Value.ref 420) (Value.ref 414) 409) }) ::
  (nat_lit 423, { cls := Value.type "dict", data := Data.dict #[{ hash := PyData.keyHash P ("__module__"), key := Value.str ("__module__") 704, val := Value.str ("eachfive.partfaults") 614 }, { hash := PyData.keyHash P ("__firstlineno__"), key := Value.str ("__firstlineno__") 708, val := Value.int 96 707 }, { hash := PyData.keyHash P ("__init__"), key := Value.str ("__init__") 717, val := Value.ref 421 }, { hash := PyData.keyHash P ("__static_attributes__"), key := Value.str ("__static_attributes__") 719, val := Value.ref 422 }, { hash := PyData.keyHash P ("__doc__"), key := Value.str ("__doc__") 721, val := Value.none }] 3 }) ::
  (nat_lit 424, { cls := Value.type "type", data := Data.cls { name := "NotApart", bases := [Value.ref 24], mro := [Value.ref 424, Value.ref 24, Value.type "ValueError", Value.type "Exception", Value.type "BaseException", Value.type "object"], ns := 423, qualname := "NotApart" }, slots := #[Option.some (Value.ref 406), Option.none, Option.some (Value.str ("NotApart") 697), Option.some (Value.str ("NotApart") 705), Option.some (Value.builtin "ValueError.__new__"), Option.some (Value.bool Bool.true)] }) ::
  (nat_lit 430, { cls := Value.type "cell", data := Data.cell (Option.some (Value.ref 445)) }) ::
  (nat_lit 441, { cls := Value.type "code", data := Data.fields #[Value.str ("__init__") 736, Value.str ("BadTrio.__init__") 737, Value.str ("/claim/cut.py") 738, Value.int 103 0, Value.int 2 0, Value.int 0 0, Value.int 0 0, Value.int 3 0, Value.ref 436, Value.bool Bool.true, Value.int 181 0, Value.ref 437, Value.none, Value.ref 438, Value.ref 439, Value.ref 440, Value.int 742 0, Value.int 103 0, Value.str ("/claim/cut.py") 743] }) ::
  (nat_lit 442, { cls := Value.type "function", data := Data.func (ksFn ("__init__") ("BadTrio.__init__") (FX.xA ("trio") { line := 103, col := 17, endLine := 103, endCol := 21 } { line := 103, col := 23, endLine := 103, endCol := 27 }) (FX.xB ("trio") ("no trio") { line := 104, col := 8, endLine := 104, endCol := 13 } { line := 104, col := 8, endLine := 104, endCol := 15 } { line := 104, col := 8, endLine := 104, endCol := 24 } { line := 104, col := 25, endLine := 104, endCol := 34 } { line := 104, col := 8, endLine := 104, endCol := 35 } { line := 104, col := 8, endLine := 104, endCol := 35 } { line := 105, col := 8, endLine := 105, endCol := 12 } { line := 105, col := 8, endLine := 105, endCol := 17 } { line := 105, col := 20, endLine := 105, endCol := 24 } { line := 105, col := 8, endLine := 105, endCol := 24 }) (FX.xS ("trio")) Value.none Value.none Value.none (Value.str ("eachfive.partfaults") 614) Option.none (Value.ref 441) (Value.ref 435) 430) }) ::
  (nat_lit 444, { cls := Value.type "dict", data := Data.dict #[{ hash := PyData.keyHash P ("__module__"), key := Value.str ("__module__") 731, val := Value.str ("eachfive.partfaults") 614 }, { hash := PyData.keyHash P ("__firstlineno__"), key := Value.str ("__firstlineno__") 735, val := Value.int 101 734 }, { hash := PyData.keyHash P ("__init__"), key := Value.str ("__init__") 744, val := Value.ref 442 }, { hash := PyData.keyHash P ("__static_attributes__"), key := Value.str ("__static_attributes__") 746, val := Value.ref 443 }, { hash := PyData.keyHash P ("__doc__"), key := Value.str ("__doc__") 748, val := Value.none }] 3 }) ::
  (nat_lit 445, { cls := Value.type "type", data := Data.cls { name := "BadTrio", bases := [Value.ref 24], mro := [Value.ref 445, Value.ref 24, Value.type "ValueError", Value.type "Exception", Value.type "BaseException", Value.type "object"], ns := 444, qualname := "BadTrio" }, slots := #[Option.some (Value.ref 427), Option.none, Option.some (Value.str ("BadTrio") 724), Option.some (Value.str ("BadTrio") 732), Option.some (Value.builtin "ValueError.__new__"), Option.some (Value.bool Bool.true)] }) ::
  (nat_lit 451, { cls := Value.type "cell", data := Data.cell (Option.some (Value.ref 466)) }) ::
  (nat_lit 462, { cls := Value.type "code", data := Data.fields #[Value.str ("__init__") 763, Value.str ("BadTwelve.__init__") 764, Value.str ("/claim/cut.py") 765, Value.int 108 0, Value.int 2 0, Value.int 0 0, Value.int 0 0, Value.int 3 0, Value.ref 457, Value.bool Bool.true, Value.int 181 0, Value.ref 458, Value.none, Value.ref 459, Value.ref 460, Value.ref 461, Value.int 769 0, Value.int 108 0, Value.str ("/claim/cut.py") 770] }) ::
  (nat_lit 463, { cls := Value.type "function", data := Data.func (ksFn ("__init__") ("BadTwelve.__init__") (FX.xA ("twelve") { line := 108, col := 17, endLine := 108, endCol := 21 } { line := 108, col := 23, endLine := 108, endCol := 29 }) (FX.xB ("twelve") ("no twelve") { line := 109, col := 8, endLine := 109, endCol := 13 } { line := 109, col := 8, endLine := 109, endCol := 15 } { line := 109, col := 8, endLine := 109, endCol := 24 } { line := 109, col := 25, endLine := 109, endCol := 36 } { line := 109, col := 8, endLine := 109, endCol := 37 } { line := 109, col := 8, endLine := 109, endCol := 37 } { line := 110, col := 8, endLine := 110, endCol := 12 } { line := 110, col := 8, endLine := 110, endCol := 19 } { line := 110, col := 22, endLine := 110, endCol := 28 } { line := 110, col := 8, endLine := 110, endCol := 28 }) (FX.xS ("twelve")) Value.none Value.none Value.none (Value.str ("eachfive.partfaults") 614) Option.none (Value.ref 462) (Value.ref 456) 451) }) ::
  (nat_lit 465, { cls := Value.type "dict", data := Data.dict #[{ hash := PyData.keyHash P ("__module__"), key := Value.str ("__module__") 758, val := Value.str ("eachfive.partfaults") 614 }, { hash := PyData.keyHash P ("__firstlineno__"), key := Value.str ("__firstlineno__") 762, val := Value.int 106 761 }, { hash := PyData.keyHash P ("__init__"), key := Value.str ("__init__") 771, val := Value.ref 463 }, { hash := PyData.keyHash P ("__static_attributes__"), key := Value.str ("__static_attributes__") 773, val := Value.ref 464 }, { hash := PyData.keyHash P ("__doc__"), key := Value.str ("__doc__") 775, val := Value.none }] 3 }) ::
  (nat_lit 466, { cls := Value.type "type", data := Data.cls { name := "BadTwelve", bases := [Value.ref 24], mro := [Value.ref 466, Value.ref 24, Value.type "ValueError", Value.type "Exception", Value.type "BaseException", Value.type "object"], ns := 465, qualname := "BadTwelve" }, slots := #[Option.some (Value.ref 448), Option.none, Option.some (Value.str ("BadTwelve") 751), Option.some (Value.str ("BadTwelve") 759), Option.some (Value.builtin "ValueError.__new__"), Option.some (Value.bool Bool.true)] }) ::
  (nat_lit 472, { cls := Value.type "cell", data := Data.cell (Option.some (Value.ref 487)) }) ::
  (nat_lit 483, { cls := Value.type "code", data := Data.fields #[Value.str ("__init__") 790, Value.str ("BadSix.__init__") 791, Value.str ("/claim/cut.py") 792, Value.int 113 0, Value.int 2 0, Value.int 0 0, Value.int 0 0, Value.int 3 0, Value.ref 478, Value.bool Bool.true, Value.int 181 0, Value.ref 479, Value.none, Value.ref 480, Value.ref 481, Value.ref 482, Value.int 796 0, Value.int 113 0, Value.str ("/claim/cut.py") 797] }) ::
  (nat_lit 484, { cls := Value.type "function", data := Data.func (ksFn ("__init__") ("BadSix.__init__") (FX.xA ("six") { line := 113, col := 17, endLine := 113, endCol := 21 } { line := 113, col := 23, endLine := 113, endCol := 26 }) (FX.xB ("six") ("no such six") { line := 114, col := 8, endLine := 114, endCol := 13 } { line := 114, col := 8, endLine := 114, endCol := 15 } { line := 114, col := 8, endLine := 114, endCol := 24 } { line := 114, col := 25, endLine := 114, endCol := 38 } { line := 114, col := 8, endLine := 114, endCol := 39 } { line := 114, col := 8, endLine := 114, endCol := 39 } { line := 115, col := 8, endLine := 115, endCol := 12 } { line := 115, col := 8, endLine := 115, endCol := 16 } { line := 115, col := 19, endLine := 115, endCol := 22 } { line := 115, col := 8, endLine := 115, endCol := 22 }) (FX.xS ("six")) Value.none Value.none Value.none (Value.str ("eachfive.partfaults") 614) Option.none (Value.ref 483) (Value.ref 477) 472) }) ::
  (nat_lit 486, { cls := Value.type "dict", data := Data.dict #[{ hash := PyData.keyHash P ("__module__"), key := Value.str ("__module__") 785, val := Value.str ("eachfive.partfaults") 614 }, { hash := PyData.keyHash P ("__firstlineno__"), key := Value.str ("__firstlineno__") 789, val := Value.int 111 788 }, { hash := PyData.keyHash P ("__init__"), key := Value.str ("__init__") 798, val := Value.ref 484 }, { hash := PyData.keyHash P ("__static_attributes__"), key := Value.str ("__static_attributes__") 800, val := Value.ref 485 }, { hash := PyData.keyHash P ("__doc__"), key := Value.str ("__doc__") 802, val := Value.none }] 3 }) ::
  (nat_lit 487, { cls := Value.type "type", data := Data.cls { name := "BadSix", bases := [Value.ref 24], mro := [Value.ref 487, Value.ref 24, Value.type "ValueError", Value.type "Exception", Value.type "BaseException", Value.type "object"], ns := 486, qualname := "BadSix" }, slots := #[Option.some (Value.ref 469), Option.none, Option.some (Value.str ("BadSix") 778), Option.some (Value.str ("BadSix") 786), Option.some (Value.builtin "ValueError.__new__"), Option.some (Value.bool Bool.true)] }) ::
  (nat_lit 493, { cls := Value.type "cell", data := Data.cell (Option.some (Value.ref 508)) }) ::
  (nat_lit 504, { cls := Value.type "code", data := Data.fields #[Value.str ("__init__") 817, Value.str ("BadLine.__init__") 818, Value.str ("/claim/cut.py") 819, Value.int 118 0, Value.int 2 0, Value.int 0 0, Value.int 0 0, Value.int 3 0, Value.ref 499, Value.bool Bool.true, Value.int 181 0, Value.ref 500, Value.none, Value.ref 501, Value.ref 502, Value.ref 503, Value.int 823 0, Value.int 118 0, Value.str ("/claim/cut.py") 824] }) ::
  (nat_lit 505, { cls := Value.type "function", data := Data.func (ksFn ("__init__") ("BadLine.__init__") (FX.xA ("line") { line := 118, col := 17, endLine := 118, endCol := 21 } { line := 118, col := 23, endLine := 118, endCol := 27 }) (FX.xB ("line") ("no other line of the plane") { line := 119, col := 8, endLine := 119, endCol := 13 } { line := 119, col := 8, endLine := 119, endCol := 15 } { line := 119, col := 8, endLine := 119, endCol := 24 } { line := 119, col := 25, endLine := 119, endCol := 53 } { line := 119, col := 8, endLine := 119, endCol := 54 } { line := 119, col := 8, endLine := 119, endCol := 54 } { line := 120, col := 8, endLine := 120, endCol := 12 } { line := 120, col := 8, endLine := 120, endCol := 17 } { line := 120, col := 20, endLine := 120, endCol := 24 } { line := 120, col := 8, endLine := 120, endCol := 24 }) (FX.xS ("line")) Value.none Value.none Value.none (Value.str ("eachfive.partfaults") 614) Option.none (Value.ref 504) (Value.ref 498) 493) }) ::
  (nat_lit 507, { cls := Value.type "dict", data := Data.dict #[{ hash := PyData.keyHash P ("__module__"), key := Value.str ("__module__") 812, val := Value.str ("eachfive.partfaults") 614 }, { hash := PyData.keyHash P ("__firstlineno__"), key := Value.str ("__firstlineno__") 816, val := Value.int 116 815 }, { hash := PyData.keyHash P ("__init__"), key := Value.str ("__init__") 825, val := Value.ref 505 }, { hash := PyData.keyHash P ("__static_attributes__"), key := Value.str ("__static_attributes__") 827, val := Value.ref 506 }, { hash := PyData.keyHash P ("__doc__"), key := Value.str ("__doc__") 829, val := Value.none }] 3 }) ::
  (nat_lit 508, { cls := Value.type "type", data := Data.cls { name := "BadLine", bases := [Value.ref 24], mro := [Value.ref 508, Value.ref 24, Value.type "ValueError", Value.type "Exception", Value.type "BaseException", Value.type "object"], ns := 507, qualname := "BadLine" }, slots := #[Option.some (Value.ref 490), Option.none, Option.some (Value.str ("BadLine") 805), Option.some (Value.str ("BadLine") 813), Option.some (Value.builtin "ValueError.__new__"), Option.some (Value.bool Bool.true)] }) ::
  (nat_lit 514, { cls := Value.type "cell", data := Data.cell (Option.some (Value.ref 529)) }) ::
  (nat_lit 525, { cls := Value.type "code", data := Data.fields #[Value.str ("__init__") 844, Value.str ("BadSixes.__init__") 845, Value.str ("/claim/cut.py") 846, Value.int 123 0, Value.int 2 0, Value.int 0 0, Value.int 0 0, Value.int 3 0, Value.ref 520, Value.bool Bool.true, Value.int 181 0, Value.ref 521, Value.none, Value.ref 522, Value.ref 523, Value.ref 524, Value.int 850 0, Value.int 123 0, Value.str ("/claim/cut.py") 851] }) ::
  (nat_lit 526, { cls := Value.type "function", data := Data.func (ksFn ("__init__") ("BadSixes.__init__") (FX.xA ("sixes") { line := 123, col := 17, endLine := 123, endCol := 21 } { line := 123, col := 23, endLine := 123, endCol := 28 }) (FX.xB ("sixes") ("no sixes") { line := 124, col := 8, endLine := 124, endCol := 13 } { line := 124, col := 8, endLine := 124, endCol := 15 } { line := 124, col := 8, endLine := 124, endCol := 24 } { line := 124, col := 25, endLine := 124, endCol := 35 } { line := 124, col := 8, endLine := 124, endCol := 36 } { line := 124, col := 8, endLine := 124, endCol := 36 } { line := 125, col := 8, endLine := 125, endCol := 12 } { line := 125, col := 8, endLine := 125, endCol := 18 } { line := 125, col := 21, endLine := 125, endCol := 26 } { line := 125, col := 8, endLine := 125, endCol := 26 }) (FX.xS ("sixes")) Value.none Value.none Value.none (Value.str ("eachfive.partfaults") 614) Option.none (Value.ref 525) (Value.ref 519) 514) }) ::
  (nat_lit 528, { cls := Value.type "dict", data := Data.dict #[{ hash := PyData.keyHash P ("__module__"), key := Value.str ("__module__") 839, val := Value.str ("eachfive.partfaults") 614 }, { hash := PyData.keyHash P ("__firstlineno__"), key := Value.str ("__firstlineno__") 843, val := Value.int 121 842 }, { hash := PyData.keyHash P ("__init__"), key := Value.str ("__init__") 852, val := Value.ref 526 }, { hash := PyData.keyHash P ("__static_attributes__"), key := Value.str ("__static_attributes__") 854, val := Value.ref 527 }, { hash := PyData.keyHash P ("__doc__"), key := Value.str ("__doc__") 856, val := Value.none }] 3 }) ::
  (nat_lit 529, { cls := Value.type "type", data := Data.cls { name := "BadSixes", bases := [Value.ref 24], mro := [Value.ref 529, Value.ref 24, Value.type "ValueError", Value.type "Exception", Value.type "BaseException", Value.type "object"], ns := 528, qualname := "BadSixes" }, slots := #[Option.some (Value.ref 511), Option.none, Option.some (Value.str ("BadSixes") 832), Option.some (Value.str ("BadSixes") 840), Option.some (Value.builtin "ValueError.__new__"), Option.some (Value.bool Bool.true)] }) ::
  (nat_lit 535, { cls := Value.type "cell", data := Data.cell (Option.some (Value.ref 550)) }) ::
  (nat_lit 546, { cls := Value.type "code", data := Data.fields #[Value.str ("__init__") 871, Value.str ("BadRow.__init__") 872, Value.str ("/claim/cut.py") 873, Value.int 128 0, Value.int 2 0, Value.int 0 0, Value.int 0 0, Value.int 3 0, Value.ref 541, Value.bool Bool.true, Value.int 181 0, Value.ref 542, Value.none, Value.ref 543, Value.ref 544, Value.ref 545, Value.int 877 0, Value.int 128 0, Value.str ("/claim/cut.py") 878] }) ::
  (nat_lit 547, { cls := Value.type "function", data := Data.func (ksFn ("__init__") ("BadRow.__init__") (FX.xA ("row") { line := 128, col := 17, endLine := 128, endCol := 21 } { line := 128, col := 23, endLine := 128, endCol := 26 }) (FX.xB ("row") ("no row of five unlike names") { line := 129, col := 8, endLine := 129, endCol := 13 } { line := 129, col := 8, endLine := 129, endCol := 15 } { line := 129, col := 8, endLine := 129, endCol := 24 } { line := 129, col := 25, endLine := 129, endCol := 54 } { line := 129, col := 8, endLine := 129, endCol := 55 } { line := 129, col := 8, endLine := 129, endCol := 55 } { line := 130, col := 8, endLine := 130, endCol := 12 } { line := 130, col := 8, endLine := 130, endCol := 16 } { line := 130, col := 19, endLine := 130, endCol := 22 } { line := 130, col := 8, endLine := 130, endCol := 22 }) (FX.xS ("row")) Value.none Value.none Value.none (Value.str ("eachfive.partfaults") 614) Option.none (Value.ref 546) (Value.ref 540) 535) }) ::
  (nat_lit 549, { cls := Value.type "dict", data := Data.dict #[{ hash := PyData.keyHash P ("__module__"), key := Value.str ("__module__") 866, val := Value.str ("eachfive.partfaults") 614 }, { hash := PyData.keyHash P ("__firstlineno__"), key := Value.str ("__firstlineno__") 870, val := Value.int 126 869 }, { hash := PyData.keyHash P ("__init__"), key := Value.str ("__init__") 879, val := Value.ref 547 }, { hash := PyData.keyHash P ("__static_attributes__"), key := Value.str ("__static_attributes__") 881, val := Value.ref 548 }, { hash := PyData.keyHash P ("__doc__"), key := Value.str ("__doc__") 883, val := Value.none }] 3 }) ::
  (nat_lit 550, { cls := Value.type "type", data := Data.cls { name := "BadRow", bases := [Value.ref 24], mro := [Value.ref 550, Value.ref 24, Value.type "ValueError", Value.type "Exception", Value.type "BaseException", Value.type "object"], ns := 549, qualname := "BadRow" }, slots := #[Option.some (Value.ref 532), Option.none, Option.some (Value.str ("BadRow") 859), Option.some (Value.str ("BadRow") 867), Option.some (Value.builtin "ValueError.__new__"), Option.some (Value.bool Bool.true)] }) ::
  (nat_lit 556, { cls := Value.type "cell", data := Data.cell (Option.some (Value.ref 571)) }) ::
  (nat_lit 567, { cls := Value.type "code", data := Data.fields #[Value.str ("__init__") 898, Value.str ("BadMarking.__init__") 899, Value.str ("/claim/cut.py") 900, Value.int 133 0, Value.int 2 0, Value.int 0 0, Value.int 0 0, Value.int 3 0, Value.ref 562, Value.bool Bool.true, Value.int 181 0, Value.ref 563, Value.none, Value.ref 564, Value.ref 565, Value.ref 566, Value.int 904 0, Value.int 133 0, Value.str ("/claim/cut.py") 905] }) ::
  (nat_lit 568, { cls := Value.type "function", data := Data.func (ksFn ("__init__") ("BadMarking.__init__") (FX.xA ("marking") { line := 133, col := 17, endLine := 133, endCol := 21 } { line := 133, col := 23, endLine := 133, endCol := 30 }) (FX.xB ("marking") ("no marking") { line := 134, col := 8, endLine := 134, endCol := 13 } { line := 134, col := 8, endLine := 134, endCol := 15 } { line := 134, col := 8, endLine := 134, endCol := 24 } { line := 134, col := 25, endLine := 134, endCol := 37 } { line := 134, col := 8, endLine := 134, endCol := 38 } { line := 134, col := 8, endLine := 134, endCol := 38 } { line := 135, col := 8, endLine := 135, endCol := 12 } { line := 135, col := 8, endLine := 135, endCol := 20 } { line := 135, col := 23, endLine := 135, endCol := 30 } { line := 135, col := 8, endLine := 135, endCol := 30 }) (FX.xS ("marking")) Value.none Value.none Value.none (Value.str ("eachfive.partfaults") 614) Option.none (Value.ref 567) (Value.ref 561) 556) }) ::
  (nat_lit 570, { cls := Value.type "dict", data := Data.dict #[{ hash := PyData.keyHash P ("__module__"), key := Value.str ("__module__") 893, val := Value.str ("eachfive.partfaults") 614 }, { hash := PyData.keyHash P ("__firstlineno__"), key := Value.str ("__firstlineno__") 897, val := Value.int 131 896 }, { hash := PyData.keyHash P ("__init__"), key := Value.str ("__init__") 906, val := Value.ref 568 }, { hash := PyData.keyHash P ("__static_attributes__"), key := Value.str ("__static_attributes__") 908, val := Value.ref 569 }, { hash := PyData.keyHash P ("__doc__"), key := Value.str ("__doc__") 910, val := Value.none }] 3 }) ::
  (nat_lit 571, { cls := Value.type "type", data := Data.cls { name := "BadMarking", bases := [Value.ref 24], mro := [Value.ref 571, Value.ref 24, Value.type "ValueError", Value.type "Exception", Value.type "BaseException", Value.type "object"], ns := 570, qualname := "BadMarking" }, slots := #[Option.some (Value.ref 553), Option.none, Option.some (Value.str ("BadMarking") 886), Option.some (Value.str ("BadMarking") 894), Option.some (Value.builtin "ValueError.__new__"), Option.some (Value.bool Bool.true)] }) ::
  (nat_lit 577, { cls := Value.type "cell", data := Data.cell (Option.some (Value.ref 592)) }) ::
  (nat_lit 588, { cls := Value.type "code", data := Data.fields #[Value.str ("__init__") 925, Value.str ("BadMarks.__init__") 926, Value.str ("/claim/cut.py") 927, Value.int 138 0, Value.int 2 0, Value.int 0 0, Value.int 0 0, Value.int 3 0, Value.ref 583, Value.bool Bool.true, Value.int 181 0, Value.ref 584, Value.none, Value.ref 585, Value.ref 586, Value.ref 587, Value.int 931 0, Value.int 138 0, Value.str ("/claim/cut.py") 932] }) ::
  (nat_lit 589, { cls := Value.type "function", data := Data.func (ksFn ("__init__") ("BadMarks.__init__") (FX.xA ("marks") { line := 138, col := 17, endLine := 138, endCol := 21 } { line := 138, col := 23, endLine := 138, endCol := 28 }) (FX.xB ("marks") ("no marks") { line := 139, col := 8, endLine := 139, endCol := 13 } { line := 139, col := 8, endLine := 139, endCol := 15 } { line := 139, col := 8, endLine := 139, endCol := 24 } { line := 139, col := 25, endLine := 139, endCol := 35 } { line := 139, col := 8, endLine := 139, endCol := 36 } { line := 139, col := 8, endLine := 139, endCol := 36 } { line := 140, col := 8, endLine := 140, endCol := 12 } { line := 140, col := 8, endLine := 140, endCol := 18 } { line := 140, col := 21, endLine := 140, endCol := 26 } { line := 140, col := 8, endLine := 140, endCol := 26 }) (FX.xS ("marks")) Value.none Value.none Value.none (Value.str ("eachfive.partfaults") 614) Option.none (Value.ref 588) (Value.ref 582) 577) }) ::
  (nat_lit 591, { cls := Value.type "dict", data := Data.dict #[{ hash := PyData.keyHash P ("__module__"), key := Value.str ("__module__") 920, val := Value.str ("eachfive.partfaults") 614 }, { hash := PyData.keyHash P ("__firstlineno__"), key := Value.str ("__firstlineno__") 924, val := Value.int 136 923 }, { hash := PyData.keyHash P ("__init__"), key := Value.str ("__init__") 933, val := Value.ref 589 }, { hash := PyData.keyHash P ("__static_attributes__"), key := Value.str ("__static_attributes__") 935, val := Value.ref 590 }, { hash := PyData.keyHash P ("__doc__"), key := Value.str ("__doc__") 937, val := Value.none }] 3 }) ::
  (nat_lit 592, { cls := Value.type "type", data := Data.cls { name := "BadMarks", bases := [Value.ref 24], mro := [Value.ref 592, Value.ref 24, Value.type "ValueError", Value.type "Exception", Value.type "BaseException", Value.type "object"], ns := 591, qualname := "BadMarks" }, slots := #[Option.some (Value.ref 574), Option.none, Option.some (Value.str ("BadMarks") 913), Option.some (Value.str ("BadMarks") 921), Option.some (Value.builtin "ValueError.__new__"), Option.some (Value.bool Bool.true)] }) ::
  (nat_lit 598, { cls := Value.type "cell", data := Data.cell (Option.some (Value.ref 613)) }) ::
  (nat_lit 609, { cls := Value.type "code", data := Data.fields #[Value.str ("__init__") 952, Value.str ("BadStand.__init__") 953, Value.str ("/claim/cut.py") 954, Value.int 143 0, Value.int 2 0, Value.int 0 0, Value.int 0 0, Value.int 3 0, Value.ref 604, Value.bool Bool.true, Value.int 181 0, Value.ref 605, Value.none, Value.ref 606, Value.ref 607, Value.ref 608, Value.int 958 0, Value.int 143 0, Value.str ("/claim/cut.py") 959] }) ::
  (nat_lit 610, { cls := Value.type "function", data := Data.func (ksFn ("__init__") ("BadStand.__init__") (FX.xA ("stand") { line := 143, col := 17, endLine := 143, endCol := 21 } { line := 143, col := 23, endLine := 143, endCol := 28 }) (FX.xB ("stand") ("no stand of the game") { line := 144, col := 8, endLine := 144, endCol := 13 } { line := 144, col := 8, endLine := 144, endCol := 15 } { line := 144, col := 8, endLine := 144, endCol := 24 } { line := 144, col := 25, endLine := 144, endCol := 47 } { line := 144, col := 8, endLine := 144, endCol := 48 } { line := 144, col := 8, endLine := 144, endCol := 48 } { line := 145, col := 8, endLine := 145, endCol := 12 } { line := 145, col := 8, endLine := 145, endCol := 18 } { line := 145, col := 21, endLine := 145, endCol := 26 } { line := 145, col := 8, endLine := 145, endCol := 26 }) (FX.xS ("stand")) Value.none Value.none Value.none (Value.str ("eachfive.partfaults") 614) Option.none (Value.ref 609) (Value.ref 603) 598) }) ::
  (nat_lit 612, { cls := Value.type "dict", data := Data.dict #[{ hash := PyData.keyHash P ("__module__"), key := Value.str ("__module__") 947, val := Value.str ("eachfive.partfaults") 614 }, { hash := PyData.keyHash P ("__firstlineno__"), key := Value.str ("__firstlineno__") 951, val := Value.int 141 950 }, { hash := PyData.keyHash P ("__init__"), key := Value.str ("__init__") 960, val := Value.ref 610 }, { hash := PyData.keyHash P ("__static_attributes__"), key := Value.str ("__static_attributes__") 962, val := Value.ref 611 }, { hash := PyData.keyHash P ("__doc__"), key := Value.str ("__doc__") 964, val := Value.none }] 3 }) ::
  (nat_lit 613, { cls := Value.type "type", data := Data.cls { name := "BadStand", bases := [Value.ref 24], mro := [Value.ref 613, Value.ref 24, Value.type "ValueError", Value.type "Exception", Value.type "BaseException", Value.type "object"], ns := 612, qualname := "BadStand" }, slots := #[Option.some (Value.ref 595), Option.none, Option.some (Value.str ("BadStand") 940), Option.some (Value.str ("BadStand") 948), Option.some (Value.builtin "ValueError.__new__"), Option.some (Value.bool Bool.true)] }) ::
  (nat_lit 619, { cls := Value.type "cell", data := Data.cell (Option.some (Value.ref 634)) }) ::
  (nat_lit 630, { cls := Value.type "code", data := Data.fields #[Value.str ("__init__") 979, Value.str ("BadLabels.__init__") 980, Value.str ("/claim/cut.py") 981, Value.int 148 0, Value.int 2 0, Value.int 0 0, Value.int 0 0, Value.int 3 0, Value.ref 625, Value.bool Bool.true, Value.int 181 0, Value.ref 626, Value.none, Value.ref 627, Value.ref 628, Value.ref 629, Value.int 985 0, Value.int 148 0, Value.str ("/claim/cut.py") 986] }) ::
  (nat_lit 631, { cls := Value.type "function", data := Data.func (ksFn ("__init__") ("BadLabels.__init__") (FX.xA ("labels") { line := 148, col := 17, endLine := 148, endCol := 21 } { line := 148, col := 23, endLine := 148, endCol := 29 }) (FX.xB ("labels") ("no labelling") { line := 149, col := 8, endLine := 149, endCol := 13 } { line := 149, col := 8, endLine := 149, endCol := 15 } { line := 149, col := 8, endLine := 149, endCol := 24 } { line := 149, col := 25, endLine := 149, endCol := 39 } { line := 149, col := 8, endLine := 149, endCol := 40 } { line := 149, col := 8, endLine := 149, endCol := 40 } { line := 150, col := 8, endLine := 150, endCol := 12 } { line := 150, col := 8, endLine := 150, endCol := 19 } { line := 150, col := 22, endLine := 150, endCol := 28 } { line := 150, col := 8, endLine := 150, endCol := 28 }) (FX.xS ("labels")) Value.none Value.none Value.none (Value.str ("eachfive.partfaults") 614) Option.none (Value.ref 630) (Value.ref 624) 619) }) ::
  (nat_lit 633, { cls := Value.type "dict", data := Data.dict #[{ hash := PyData.keyHash P ("__module__"), key := Value.str ("__module__") 974, val := Value.str ("eachfive.partfaults") 614 }, { hash := PyData.keyHash P ("__firstlineno__"), key := Value.str ("__firstlineno__") 978, val := Value.int 146 977 }, { hash := PyData.keyHash P ("__init__"), key := Value.str ("__init__") 987, val := Value.ref 631 }, { hash := PyData.keyHash P ("__static_attributes__"), key := Value.str ("__static_attributes__") 989, val := Value.ref 632 }, { hash := PyData.keyHash P ("__doc__"), key := Value.str ("__doc__") 991, val := Value.none }] 3 }) ::
  (nat_lit 634, { cls := Value.type "type", data := Data.cls { name := "BadLabels", bases := [Value.ref 24], mro := [Value.ref 634, Value.ref 24, Value.type "ValueError", Value.type "Exception", Value.type "BaseException", Value.type "object"], ns := 633, qualname := "BadLabels" }, slots := #[Option.some (Value.ref 616), Option.none, Option.some (Value.str ("BadLabels") 967), Option.some (Value.str ("BadLabels") 975), Option.some (Value.builtin "ValueError.__new__"), Option.some (Value.bool Bool.true)] }) ::
  (nat_lit 640, { cls := Value.type "cell", data := Data.cell (Option.some (Value.ref 655)) }) ::
  (nat_lit 651, { cls := Value.type "code", data := Data.fields #[Value.str ("__init__") 1006, Value.str ("BadHexa.__init__") 1007, Value.str ("/claim/cut.py") 1008, Value.int 153 0, Value.int 2 0, Value.int 0 0, Value.int 0 0, Value.int 3 0, Value.ref 646, Value.bool Bool.true, Value.int 181 0, Value.ref 647, Value.none, Value.ref 648, Value.ref 649, Value.ref 650, Value.int 1012 0, Value.int 153 0, Value.str ("/claim/cut.py") 1013] }) ::
  (nat_lit 652, { cls := Value.type "function", data := Data.func (ksFn ("__init__") ("BadHexa.__init__") (FX.xA ("six") { line := 153, col := 17, endLine := 153, endCol := 21 } { line := 153, col := 23, endLine := 153, endCol := 26 }) (FX.xB ("six") ("no hexaword") { line := 154, col := 8, endLine := 154, endCol := 13 } { line := 154, col := 8, endLine := 154, endCol := 15 } { line := 154, col := 8, endLine := 154, endCol := 24 } { line := 154, col := 25, endLine := 154, endCol := 38 } { line := 154, col := 8, endLine := 154, endCol := 39 } { line := 154, col := 8, endLine := 154, endCol := 39 } { line := 155, col := 8, endLine := 155, endCol := 12 } { line := 155, col := 8, endLine := 155, endCol := 16 } { line := 155, col := 19, endLine := 155, endCol := 22 } { line := 155, col := 8, endLine := 155, endCol := 22 }) (FX.xS ("six")) Value.none Value.none Value.none (Value.str ("eachfive.partfaults") 614) Option.none (Value.ref 651) (Value.ref 645) 640) }) ::
  (nat_lit 654, { cls := Value.type "dict", data := Data.dict #[{ hash := PyData.keyHash P ("__module__"), key := Value.str ("__module__") 1001, val := Value.str ("eachfive.partfaults") 614 }, { hash := PyData.keyHash P ("__firstlineno__"), key := Value.str ("__firstlineno__") 1005, val := Value.int 151 1004 }, { hash := PyData.keyHash P ("__init__"), key := Value.str ("__init__") 1014, val := Value.ref 652 }, { hash := PyData.keyHash P ("__static_attributes__"), key := Value.str ("__static_attributes__") 1016, val := Value.ref 653 }, { hash := PyData.keyHash P ("__doc__"), key := Value.str ("__doc__") 1018, val := Value.none }] 3 }) ::
  (nat_lit 655, { cls := Value.type "type", data := Data.cls { name := "BadHexa", bases := [Value.ref 24], mro := [Value.ref 655, Value.ref 24, Value.type "ValueError", Value.type "Exception", Value.type "BaseException", Value.type "object"], ns := 654, qualname := "BadHexa" }, slots := #[Option.some (Value.ref 637), Option.none, Option.some (Value.str ("BadHexa") 994), Option.some (Value.str ("BadHexa") 1002), Option.some (Value.builtin "ValueError.__new__"), Option.some (Value.bool Bool.true)] }) ::
  (nat_lit 661, { cls := Value.type "cell", data := Data.cell (Option.some (Value.ref 676)) }) ::
  (nat_lit 672, { cls := Value.type "code", data := Data.fields #[Value.str ("__init__") 1033, Value.str ("BadNode.__init__") 1034, Value.str ("/claim/cut.py") 1035, Value.int 158 0, Value.int 2 0, Value.int 0 0, Value.int 0 0, Value.int 3 0, Value.ref 667, Value.bool Bool.true, Value.int 181 0, Value.ref 668, Value.none, Value.ref 669, Value.ref 670, Value.ref 671, Value.int 1039 0, Value.int 158 0, Value.str ("/claim/cut.py") 1040] }) ::
  (nat_lit 673, { cls := Value.type "function", data := Data.func (ksFn ("__init__") ("BadNode.__init__") (FX.xA ("node") { line := 158, col := 17, endLine := 158, endCol := 21 } { line := 158, col := 23, endLine := 158, endCol := 27 }) (FX.xB ("node") ("no other node") { line := 159, col := 8, endLine := 159, endCol := 13 } { line := 159, col := 8, endLine := 159, endCol := 15 } { line := 159, col := 8, endLine := 159, endCol := 24 } { line := 159, col := 25, endLine := 159, endCol := 40 } { line := 159, col := 8, endLine := 159, endCol := 41 } { line := 159, col := 8, endLine := 159, endCol := 41 } { line := 160, col := 8, endLine := 160, endCol := 12 } { line := 160, col := 8, endLine := 160, endCol := 17 } { line := 160, col := 20, endLine := 160, endCol := 24 } { line := 160, col := 8, endLine := 160, endCol := 24 }) (FX.xS ("node")) Value.none Value.none Value.none (Value.str ("eachfive.partfaults") 614) Option.none (Value.ref 672) (Value.ref 666) 661) }) ::
  (nat_lit 675, { cls := Value.type "dict", data := Data.dict #[{ hash := PyData.keyHash P ("__module__"), key := Value.str ("__module__") 1028, val := Value.str ("eachfive.partfaults") 614 }, { hash := PyData.keyHash P ("__firstlineno__"), key := Value.str ("__firstlineno__") 1032, val := Value.int 156 1031 }, { hash := PyData.keyHash P ("__init__"), key := Value.str ("__init__") 1041, val := Value.ref 673 }, { hash := PyData.keyHash P ("__static_attributes__"), key := Value.str ("__static_attributes__") 1043, val := Value.ref 674 }, { hash := PyData.keyHash P ("__doc__"), key := Value.str ("__doc__") 1045, val := Value.none }] 3 }) ::
  (nat_lit 676, { cls := Value.type "type", data := Data.cls { name := "BadNode", bases := [Value.ref 24], mro := [Value.ref 676, Value.ref 24, Value.type "ValueError", Value.type "Exception", Value.type "BaseException", Value.type "object"], ns := 675, qualname := "BadNode" }, slots := #[Option.some (Value.ref 658), Option.none, Option.some (Value.str ("BadNode") 1021), Option.some (Value.str ("BadNode") 1029), Option.some (Value.builtin "ValueError.__new__"), Option.some (Value.bool Bool.true)] }) ::
  (nat_lit 682, { cls := Value.type "cell", data := Data.cell (Option.some (Value.ref 697)) }) ::
  (nat_lit 693, { cls := Value.type "code", data := Data.fields #[Value.str ("__init__") 1060, Value.str ("BadSignRows.__init__") 1061, Value.str ("/claim/cut.py") 1062, Value.int 163 0, Value.int 2 0, Value.int 0 0, Value.int 0 0, Value.int 3 0, Value.ref 688, Value.bool Bool.true, Value.int 181 0, Value.ref 689, Value.none, Value.ref 690, Value.ref 691, Value.ref 692, Value.int 1066 0, Value.int 163 0, Value.str ("/claim/cut.py") 1067] }) ::
  (nat_lit 694, { cls := Value.type "function", data := Data.func (ksFn ("__init__") ("BadSignRows.__init__") (FX.xA ("rows") { line := 163, col := 17, endLine := 163, endCol := 21 } { line := 163, col := 23, endLine := 163, endCol := 27 }) (FX.xB ("rows") ("no sign rows") { line := 164, col := 8, endLine := 164, endCol := 13 } { line := 164, col := 8, endLine := 164, endCol := 15 } { line := 164, col := 8, endLine := 164, endCol := 24 } { line := 164, col := 25, endLine := 164, endCol := 39 } { line := 164, col := 8, endLine := 164, endCol := 40 } { line := 164, col := 8, endLine := 164, endCol := 40 } { line := 165, col := 8, endLine := 165, endCol := 12 } { line := 165, col := 8, endLine := 165, endCol := 17 } { line := 165, col := 20, endLine := 165, endCol := 24 } { line := 165, col := 8, endLine := 165, endCol := 24 }) (FX.xS ("rows")) Value.none Value.none Value.none (Value.str ("eachfive.partfaults") 614) Option.none (Value.ref 693) (Value.ref 687) 682) }) ::
  (nat_lit 696, { cls := Value.type "dict", data := Data.dict #[{ hash := PyData.keyHash P ("__module__"), key := Value.str ("__module__") 1055, val := Value.str ("eachfive.partfaults") 614 }, { hash := PyData.keyHash P ("__firstlineno__"), key := Value.str ("__firstlineno__") 1059, val := Value.int 161 1058 }, { hash := PyData.keyHash P ("__init__"), key := Value.str ("__init__") 1068, val := Value.ref 694 }, { hash := PyData.keyHash P ("__static_attributes__"), key := Value.str ("__static_attributes__") 1070, val := Value.ref 695 }, { hash := PyData.keyHash P ("__doc__"), key := Value.str ("__doc__") 1072, val := Value.none }] 3 }) ::
  (nat_lit 697, { cls := Value.type "type", data := Data.cls { name := "BadSignRows", bases := [Value.ref 24], mro := [Value.ref 697, Value.ref 24, Value.type "ValueError", Value.type "Exception", Value.type "BaseException", Value.type "object"], ns := 696, qualname := "BadSignRows" }, slots := #[Option.some (Value.ref 679), Option.none, Option.some (Value.str ("BadSignRows") 1048), Option.some (Value.str ("BadSignRows") 1056), Option.some (Value.builtin "ValueError.__new__"), Option.some (Value.bool Bool.true)] }) ::
  (nat_lit 703, { cls := Value.type "cell", data := Data.cell (Option.some (Value.ref 718)) }) ::
  (nat_lit 714, { cls := Value.type "code", data := Data.fields #[Value.str ("__init__") 1089, Value.str ("BadPart.__init__") 1090, Value.str ("/claim/cut.py") 1091, Value.int 169 0, Value.int 2 0, Value.int 0 0, Value.int 0 0, Value.int 3 0, Value.ref 709, Value.bool Bool.true, Value.int 181 0, Value.ref 710, Value.none, Value.ref 711, Value.ref 712, Value.ref 713, Value.int 1095 0, Value.int 169 0, Value.str ("/claim/cut.py") 1096] }) ::
  (nat_lit 715, { cls := Value.type "function", data := Data.func (ksFn ("__init__") ("BadPart.__init__") (FX.xA ("part") { line := 169, col := 17, endLine := 169, endCol := 21 } { line := 169, col := 23, endLine := 169, endCol := 27 }) (FX.xB ("part") ("no part of the lot") { line := 170, col := 8, endLine := 170, endCol := 13 } { line := 170, col := 8, endLine := 170, endCol := 15 } { line := 170, col := 8, endLine := 170, endCol := 24 } { line := 170, col := 25, endLine := 170, endCol := 45 } { line := 170, col := 8, endLine := 170, endCol := 46 } { line := 170, col := 8, endLine := 170, endCol := 46 } { line := 171, col := 8, endLine := 171, endCol := 12 } { line := 171, col := 8, endLine := 171, endCol := 17 } { line := 171, col := 20, endLine := 171, endCol := 24 } { line := 171, col := 8, endLine := 171, endCol := 24 }) (FX.xS ("part")) Value.none Value.none Value.none (Value.str ("eachfive.partwords") 1075) Option.none (Value.ref 714) (Value.ref 708) 703) }) ::
  (nat_lit 717, { cls := Value.type "dict", data := Data.dict #[{ hash := PyData.keyHash P ("__module__"), key := Value.str ("__module__") 1084, val := Value.str ("eachfive.partwords") 1075 }, { hash := PyData.keyHash P ("__firstlineno__"), key := Value.str ("__firstlineno__") 1088, val := Value.int 167 1087 }, { hash := PyData.keyHash P ("__init__"), key := Value.str ("__init__") 1097, val := Value.ref 715 }, { hash := PyData.keyHash P ("__static_attributes__"), key := Value.str ("__static_attributes__") 1099, val := Value.ref 716 }, { hash := PyData.keyHash P ("__doc__"), key := Value.str ("__doc__") 1101, val := Value.none }] 3 }) ::
  (nat_lit 718, { cls := Value.type "type", data := Data.cls { name := "BadPart", bases := [Value.ref 24], mro := [Value.ref 718, Value.ref 24, Value.type "ValueError", Value.type "Exception", Value.type "BaseException", Value.type "object"], ns := 717, qualname := "BadPart" }, slots := #[Option.some (Value.ref 700), Option.none, Option.some (Value.str ("BadPart") 1077), Option.some (Value.str ("BadPart") 1085), Option.some (Value.builtin "ValueError.__new__"), Option.some (Value.bool Bool.true)] }) ::
  (nat_lit 724, { cls := Value.type "cell", data := Data.cell (Option.some (Value.ref 739)) }) ::
  (nat_lit 735, { cls := Value.type "code", data := Data.fields #[Value.str ("__init__") 1118, Value.str ("BadRing.__init__") 1119, Value.str ("/claim/cut.py") 1120, Value.int 175 0, Value.int 2 0, Value.int 0 0, Value.int 0 0, Value.int 3 0, Value.ref 730, Value.bool Bool.true, Value.int 181 0, Value.ref 731, Value.none, Value.ref 732, Value.ref 733, Value.ref 734, Value.int 1124 0, Value.int 175 0, Value.str ("/claim/cut.py") 1125] }) ::
  (nat_lit 736, { cls := Value.type "function", data := Data.func (ksFn ("__init__") ("BadRing.__init__") (FX.xA ("ring") { line := 175, col := 17, endLine := 175, endCol := 21 } { line := 175, col := 23, endLine := 175, endCol := 27 }) (FX.xB ("ring") ("no ring") { line := 176, col := 8, endLine := 176, endCol := 13 } { line := 176, col := 8, endLine := 176, endCol := 15 } { line := 176, col := 8, endLine := 176, endCol := 24 } { line := 176, col := 25, endLine := 176, endCol := 34 } { line := 176, col := 8, endLine := 176, endCol := 35 } { line := 176, col := 8, endLine := 176, endCol := 35 } { line := 177, col := 8, endLine := 177, endCol := 12 } { line := 177, col := 8, endLine := 177, endCol := 17 } { line := 177, col := 20, endLine := 177, endCol := 24 } { line := 177, col := 8, endLine := 177, endCol := 24 }) (FX.xS ("ring")) Value.none Value.none Value.none (Value.str ("eachfive.ringfaults") 1104) Option.none (Value.ref 735) (Value.ref 729) 724) }) ::
  (nat_lit 738, { cls := Value.type "dict", data := Data.dict #[{ hash := PyData.keyHash P ("__module__"), key := Value.str ("__module__") 1113, val := Value.str ("eachfive.ringfaults") 1104 }, { hash := PyData.keyHash P ("__firstlineno__"), key := Value.str ("__firstlineno__") 1117, val := Value.int 173 1116 }, { hash := PyData.keyHash P ("__init__"), key := Value.str ("__init__") 1126, val := Value.ref 736 }, { hash := PyData.keyHash P ("__static_attributes__"), key := Value.str ("__static_attributes__") 1128, val := Value.ref 737 }, { hash := PyData.keyHash P ("__doc__"), key := Value.str ("__doc__") 1130, val := Value.none }] 3 }) ::
  (nat_lit 739, { cls := Value.type "type", data := Data.cls { name := "BadRing", bases := [Value.ref 24], mro := [Value.ref 739, Value.ref 24, Value.type "ValueError", Value.type "Exception", Value.type "BaseException", Value.type "object"], ns := 738, qualname := "BadRing" }, slots := #[Option.some (Value.ref 721), Option.none, Option.some (Value.str ("BadRing") 1106), Option.some (Value.str ("BadRing") 1114), Option.some (Value.builtin "ValueError.__new__"), Option.some (Value.bool Bool.true)] }) ::
  (nat_lit 745, { cls := Value.type "cell", data := Data.cell (Option.some (Value.ref 760)) }) ::
  (nat_lit 756, { cls := Value.type "code", data := Data.fields #[Value.str ("__init__") 1145, Value.str ("BadPlaces.__init__") 1146, Value.str ("/claim/cut.py") 1147, Value.int 180 0, Value.int 2 0, Value.int 0 0, Value.int 0 0, Value.int 3 0, Value.ref 751, Value.bool Bool.true, Value.int 181 0, Value.ref 752, Value.none, Value.ref 753, Value.ref 754, Value.ref 755, Value.int 1151 0, Value.int 180 0, Value.str ("/claim/cut.py") 1152] }) ::
  (nat_lit 757, { cls := Value.type "function", data := Data.func (ksFn ("__init__") ("BadPlaces.__init__") (FX.xA ("places") { line := 180, col := 17, endLine := 180, endCol := 21 } { line := 180, col := 23, endLine := 180, endCol := 29 }) (FX.xB ("places") ("no places") { line := 181, col := 8, endLine := 181, endCol := 13 } { line := 181, col := 8, endLine := 181, endCol := 15 } { line := 181, col := 8, endLine := 181, endCol := 24 } { line := 181, col := 25, endLine := 181, endCol := 36 } { line := 181, col := 8, endLine := 181, endCol := 37 } { line := 181, col := 8, endLine := 181, endCol := 37 } { line := 182, col := 8, endLine := 182, endCol := 12 } { line := 182, col := 8, endLine := 182, endCol := 19 } { line := 182, col := 22, endLine := 182, endCol := 28 } { line := 182, col := 8, endLine := 182, endCol := 28 }) (FX.xS ("places")) Value.none Value.none Value.none (Value.str ("eachfive.ringfaults") 1104) Option.none (Value.ref 756) (Value.ref 750) 745) }) ::
  (nat_lit 759, { cls := Value.type "dict", data := Data.dict #[{ hash := PyData.keyHash P ("__module__"), key := Value.str ("__module__") 1140, val := Value.str ("eachfive.ringfaults") 1104 }, { hash := PyData.keyHash P ("__firstlineno__"), key := Value.str ("__firstlineno__") 1144, val := Value.int 178 1143 }, { hash := PyData.keyHash P ("__init__"), key := Value.str ("__init__") 1153, val := Value.ref 757 }, { hash := PyData.keyHash P ("__static_attributes__"), key := Value.str ("__static_attributes__") 1155, val := Value.ref 758 }, { hash := PyData.keyHash P ("__doc__"), key := Value.str ("__doc__") 1157, val := Value.none }] 3 }) ::
  (nat_lit 760, { cls := Value.type "type", data := Data.cls { name := "BadPlaces", bases := [Value.ref 24], mro := [Value.ref 760, Value.ref 24, Value.type "ValueError", Value.type "Exception", Value.type "BaseException", Value.type "object"], ns := 759, qualname := "BadPlaces" }, slots := #[Option.some (Value.ref 742), Option.none, Option.some (Value.str ("BadPlaces") 1133), Option.some (Value.str ("BadPlaces") 1141), Option.some (Value.builtin "ValueError.__new__"), Option.some (Value.bool Bool.true)] }) ::
  (nat_lit 766, { cls := Value.type "cell", data := Data.cell (Option.some (Value.ref 781)) }) ::
  (nat_lit 777, { cls := Value.type "code", data := Data.fields #[Value.str ("__init__") 1174, Value.str ("BadTrust.__init__") 1175, Value.str ("/claim/cut.py") 1176, Value.int 186 0, Value.int 2 0, Value.int 0 0, Value.int 0 0, Value.int 3 0, Value.ref 772, Value.bool Bool.true, Value.int 181 0, Value.ref 773, Value.none, Value.ref 774, Value.ref 775, Value.ref 776, Value.int 1180 0, Value.int 186 0, Value.str ("/claim/cut.py") 1181] }) ::
  (nat_lit 778, { cls := Value.type "function", data := Data.func (ksFn ("__init__") ("BadTrust.__init__") (FX.xA ("trust") { line := 186, col := 17, endLine := 186, endCol := 21 } { line := 186, col := 23, endLine := 186, endCol := 28 }) (FX.xB ("trust") ("no trust") { line := 187, col := 8, endLine := 187, endCol := 13 } { line := 187, col := 8, endLine := 187, endCol := 15 } { line := 187, col := 8, endLine := 187, endCol := 24 } { line := 187, col := 25, endLine := 187, endCol := 35 } { line := 187, col := 8, endLine := 187, endCol := 36 } { line := 187, col := 8, endLine := 187, endCol := 36 } { line := 188, col := 8, endLine := 188, endCol := 12 } { line := 188, col := 8, endLine := 188, endCol := 18 } { line := 188, col := 21, endLine := 188, endCol := 26 } { line := 188, col := 8, endLine := 188, endCol := 26 }) (FX.xS ("trust")) Value.none Value.none Value.none (Value.str ("eachfive.spanfaults") 1160) Option.none (Value.ref 777) (Value.ref 771) 766) }) ::
  (nat_lit 780, { cls := Value.type "dict", data := Data.dict #[{ hash := PyData.keyHash P ("__module__"), key := Value.str ("__module__") 1169, val := Value.str ("eachfive.spanfaults") 1160 }, { hash := PyData.keyHash P ("__firstlineno__"), key := Value.str ("__firstlineno__") 1173, val := Value.int 184 1172 }, { hash := PyData.keyHash P ("__init__"), key := Value.str ("__init__") 1182, val := Value.ref 778 }, { hash := PyData.keyHash P ("__static_attributes__"), key := Value.str ("__static_attributes__") 1184, val := Value.ref 779 }, { hash := PyData.keyHash P ("__doc__"), key := Value.str ("__doc__") 1186, val := Value.none }] 3 }) ::
  (nat_lit 781, { cls := Value.type "type", data := Data.cls { name := "BadTrust", bases := [Value.ref 24], mro := [Value.ref 781, Value.ref 24, Value.type "ValueError", Value.type "Exception", Value.type "BaseException", Value.type "object"], ns := 780, qualname := "BadTrust" }, slots := #[Option.some (Value.ref 763), Option.none, Option.some (Value.str ("BadTrust") 1162), Option.some (Value.str ("BadTrust") 1170), Option.some (Value.builtin "ValueError.__new__"), Option.some (Value.bool Bool.true)] }) ::
  (nat_lit 787, { cls := Value.type "cell", data := Data.cell (Option.some (Value.ref 802)) }) ::
  (nat_lit 798, { cls := Value.type "code", data := Data.fields #[Value.str ("__init__") 1201, Value.str ("BadWords.__init__") 1202, Value.str ("/claim/cut.py") 1203, Value.int 191 0, Value.int 2 0, Value.int 0 0, Value.int 0 0, Value.int 3 0, Value.ref 793, Value.bool Bool.true, Value.int 181 0, Value.ref 794, Value.none, Value.ref 795, Value.ref 796, Value.ref 797, Value.int 1207 0, Value.int 191 0, Value.str ("/claim/cut.py") 1208] }) ::
  (nat_lit 799, { cls := Value.type "function", data := Data.func (ksFn ("__init__") ("BadWords.__init__") (FX.xA ("words") { line := 191, col := 17, endLine := 191, endCol := 21 } { line := 191, col := 23, endLine := 191, endCol := 28 }) (FX.xB ("words") ("no list of words") { line := 192, col := 8, endLine := 192, endCol := 13 } { line := 192, col := 8, endLine := 192, endCol := 15 } { line := 192, col := 8, endLine := 192, endCol := 24 } { line := 192, col := 25, endLine := 192, endCol := 43 } { line := 192, col := 8, endLine := 192, endCol := 44 } { line := 192, col := 8, endLine := 192, endCol := 44 } { line := 193, col := 8, endLine := 193, endCol := 12 } { line := 193, col := 8, endLine := 193, endCol := 18 } { line := 193, col := 21, endLine := 193, endCol := 26 } { line := 193, col := 8, endLine := 193, endCol := 26 }) (FX.xS ("words")) Value.none Value.none Value.none (Value.str ("eachfive.spanfaults") 1160) Option.none (Value.ref 798) (Value.ref 792) 787) }) ::
  (nat_lit 801, { cls := Value.type "dict", data := Data.dict #[{ hash := PyData.keyHash P ("__module__"), key := Value.str ("__module__") 1196, val := Value.str ("eachfive.spanfaults") 1160 }, { hash := PyData.keyHash P ("__firstlineno__"), key := Value.str ("__firstlineno__") 1200, val := Value.int 189 1199 }, { hash := PyData.keyHash P ("__init__"), key := Value.str ("__init__") 1209, val := Value.ref 799 }, { hash := PyData.keyHash P ("__static_attributes__"), key := Value.str ("__static_attributes__") 1211, val := Value.ref 800 }, { hash := PyData.keyHash P ("__doc__"), key := Value.str ("__doc__") 1213, val := Value.none }] 3 }) ::
  (nat_lit 802, { cls := Value.type "type", data := Data.cls { name := "BadWords", bases := [Value.ref 24], mro := [Value.ref 802, Value.ref 24, Value.type "ValueError", Value.type "Exception", Value.type "BaseException", Value.type "object"], ns := 801, qualname := "BadWords" }, slots := #[Option.some (Value.ref 784), Option.none, Option.some (Value.str ("BadWords") 1189), Option.some (Value.str ("BadWords") 1197), Option.some (Value.builtin "ValueError.__new__"), Option.some (Value.bool Bool.true)] }) ::
  (nat_lit 808, { cls := Value.type "cell", data := Data.cell (Option.some (Value.ref 823)) }) ::
  (nat_lit 819, { cls := Value.type "code", data := Data.fields #[Value.str ("__init__") 1228, Value.str ("BadShape.__init__") 1229, Value.str ("/claim/cut.py") 1230, Value.int 196 0, Value.int 2 0, Value.int 0 0, Value.int 0 0, Value.int 3 0, Value.ref 814, Value.bool Bool.true, Value.int 181 0, Value.ref 815, Value.none, Value.ref 816, Value.ref 817, Value.ref 818, Value.int 1234 0, Value.int 196 0, Value.str ("/claim/cut.py") 1235] }) ::
  (nat_lit 820, { cls := Value.type "function", data := Data.func (ksFn ("__init__") ("BadShape.__init__") (FX.xA ("shape") { line := 196, col := 17, endLine := 196, endCol := 21 } { line := 196, col := 23, endLine := 196, endCol := 28 }) (FX.xB ("shape") ("no shape") { line := 197, col := 8, endLine := 197, endCol := 13 } { line := 197, col := 8, endLine := 197, endCol := 15 } { line := 197, col := 8, endLine := 197, endCol := 24 } { line := 197, col := 25, endLine := 197, endCol := 35 } { line := 197, col := 8, endLine := 197, endCol := 36 } { line := 197, col := 8, endLine := 197, endCol := 36 } { line := 198, col := 8, endLine := 198, endCol := 12 } { line := 198, col := 8, endLine := 198, endCol := 18 } { line := 198, col := 21, endLine := 198, endCol := 26 } { line := 198, col := 8, endLine := 198, endCol := 26 }) (FX.xS ("shape")) Value.none Value.none Value.none (Value.str ("eachfive.spanfaults") 1160) Option.none (Value.ref 819) (Value.ref 813) 808) }) ::
  (nat_lit 822, { cls := Value.type "dict", data := Data.dict #[{ hash := PyData.keyHash P ("__module__"), key := Value.str ("__module__") 1223, val := Value.str ("eachfive.spanfaults") 1160 }, { hash := PyData.keyHash P ("__firstlineno__"), key := Value.str ("__firstlineno__") 1227, val := Value.int 194 1226 }, { hash := PyData.keyHash P ("__init__"), key := Value.str ("__init__") 1236, val := Value.ref 820 }, { hash := PyData.keyHash P ("__static_attributes__"), key := Value.str ("__static_attributes__") 1238, val := Value.ref 821 }, { hash := PyData.keyHash P ("__doc__"), key := Value.str ("__doc__") 1240, val := Value.none }] 3 }) ::
  (nat_lit 823, { cls := Value.type "type", data := Data.cls { name := "BadShape", bases := [Value.ref 24], mro := [Value.ref 823, Value.ref 24, Value.type "ValueError", Value.type "Exception", Value.type "BaseException", Value.type "object"], ns := 822, qualname := "BadShape" }, slots := #[Option.some (Value.ref 805), Option.none, Option.some (Value.str ("BadShape") 1216), Option.some (Value.str ("BadShape") 1224), Option.some (Value.builtin "ValueError.__new__"), Option.some (Value.bool Bool.true)] }) ::
  (nat_lit 829, { cls := Value.type "cell", data := Data.cell (Option.some (Value.ref 844)) }) ::
  (nat_lit 840, { cls := Value.type "code", data := Data.fields #[Value.str ("__init__") 1257, Value.str ("Within.__init__") 1258, Value.str ("/claim/cut.py") 1259, Value.int 202 0, Value.int 2 0, Value.int 0 0, Value.int 0 0, Value.int 3 0, Value.ref 835, Value.bool Bool.true, Value.int 181 0, Value.ref 836, Value.none, Value.ref 837, Value.ref 838, Value.ref 839, Value.int 1263 0, Value.int 202 0, Value.str ("/claim/cut.py") 1264] }) ::
  (nat_lit 841, { cls := Value.type "function", data := Data.func (ksFn ("__init__") ("Within.__init__") (FX.xA ("name") { line := 202, col := 17, endLine := 202, endCol := 21 } { line := 202, col := 23, endLine := 202, endCol := 27 }) (FX.xB ("name") ("in the lot") { line := 203, col := 8, endLine := 203, endCol := 13 } { line := 203, col := 8, endLine := 203, endCol := 15 } { line := 203, col := 8, endLine := 203, endCol := 24 } { line := 203, col := 25, endLine := 203, endCol := 37 } { line := 203, col := 8, endLine := 203, endCol := 38 } { line := 203, col := 8, endLine := 203, endCol := 38 } { line := 204, col := 8, endLine := 204, endCol := 12 } { line := 204, col := 8, endLine := 204, endCol := 17 } { line := 204, col := 20, endLine := 204, endCol := 24 } { line := 204, col := 8, endLine := 204, endCol := 24 }) (FX.xS ("name")) Value.none Value.none Value.none (Value.str ("eachfive.stepfaults") 1243) Option.none (Value.ref 840) (Value.ref 834) 829) }) ::
  (nat_lit 843, { cls := Value.type "dict", data := Data.dict #[{ hash := PyData.keyHash P ("__module__"), key := Value.str ("__module__") 1252, val := Value.str ("eachfive.stepfaults") 1243 }, { hash := PyData.keyHash P ("__firstlineno__"), key := Value.str ("__firstlineno__") 1256, val := Value.int 200 1255 }, { hash := PyData.keyHash P ("__init__"), key := Value.str ("__init__") 1265, val := Value.ref 841 }, { hash := PyData.keyHash P ("__static_attributes__"), key := Value.str ("__static_attributes__") 1267, val := Value.ref 842 }, { hash := PyData.keyHash P ("__doc__"), key := Value.str ("__doc__") 1269, val := Value.none }] 3 }) ::
  (nat_lit 844, { cls := Value.type "type", data := Data.cls { name := "Within", bases := [Value.ref 24], mro := [Value.ref 844, Value.ref 24, Value.type "ValueError", Value.type "Exception", Value.type "BaseException", Value.type "object"], ns := 843, qualname := "Within" }, slots := #[Option.some (Value.ref 826), Option.none, Option.some (Value.str ("Within") 1245), Option.some (Value.str ("Within") 1253), Option.some (Value.builtin "ValueError.__new__"), Option.some (Value.bool Bool.true)] }) ::
  (nat_lit 850, { cls := Value.type "cell", data := Data.cell (Option.some (Value.ref 865)) }) ::
  (nat_lit 861, { cls := Value.type "code", data := Data.fields #[Value.str ("__init__") 1284, Value.str ("Without.__init__") 1285, Value.str ("/claim/cut.py") 1286, Value.int 207 0, Value.int 2 0, Value.int 0 0, Value.int 0 0, Value.int 3 0, Value.ref 856, Value.bool Bool.true, Value.int 181 0, Value.ref 857, Value.none, Value.ref 858, Value.ref 859, Value.ref 860, Value.int 1290 0, Value.int 207 0, Value.str ("/claim/cut.py") 1291] }) ::
  (nat_lit 862, { cls := Value.type "function", data := Data.func (ksFn ("__init__") ("Without.__init__") (FX.xA ("name") { line := 207, col := 17, endLine := 207, endCol := 21 } { line := 207, col := 23, endLine := 207, endCol := 27 }) (FX.xB ("name") ("not in the lot") { line := 208, col := 8, endLine := 208, endCol := 13 } { line := 208, col := 8, endLine := 208, endCol := 15 } { line := 208, col := 8, endLine := 208, endCol := 24 } { line := 208, col := 25, endLine := 208, endCol := 41 } { line := 208, col := 8, endLine := 208, endCol := 42 } { line := 208, col := 8, endLine := 208, endCol := 42 } { line := 209, col := 8, endLine := 209, endCol := 12 } { line := 209, col := 8, endLine := 209, endCol := 17 } { line := 209, col := 20, endLine := 209, endCol := 24 } { line := 209, col := 8, endLine := 209, endCol := 24 }) (FX.xS ("name")) Value.none Value.none Value.none (Value.str ("eachfive.stepfaults") 1243) Option.none (Value.ref 861) (Value.ref 855) 850) }) ::
  (nat_lit 864, { cls := Value.type "dict", data := Data.dict #[{ hash := PyData.keyHash P ("__module__"), key := Value.str ("__module__") 1279, val := Value.str ("eachfive.stepfaults") 1243 }, { hash := PyData.keyHash P ("__firstlineno__"), key := Value.str ("__firstlineno__") 1283, val := Value.int 205 1282 }, { hash := PyData.keyHash P ("__init__"), key := Value.str ("__init__") 1292, val := Value.ref 862 }, { hash := PyData.keyHash P ("__static_attributes__"), key := Value.str ("__static_attributes__") 1294, val := Value.ref 863 }, { hash := PyData.keyHash P ("__doc__"), key := Value.str ("__doc__") 1296, val := Value.none }] 3 }) ::
  (nat_lit 865, { cls := Value.type "type", data := Data.cls { name := "Without", bases := [Value.ref 24], mro := [Value.ref 865, Value.ref 24, Value.type "ValueError", Value.type "Exception", Value.type "BaseException", Value.type "object"], ns := 864, qualname := "Without" }, slots := #[Option.some (Value.ref 847), Option.none, Option.some (Value.str ("Without") 1272), Option.some (Value.str ("Without") 1280), Option.some (Value.builtin "ValueError.__new__"), Option.some (Value.bool Bool.true)] }) ::
  (nat_lit 871, { cls := Value.type "cell", data := Data.cell (Option.some (Value.ref 886)) }) ::
  (nat_lit 882, { cls := Value.type "code", data := Data.fields #[Value.str ("__init__") 1311, Value.str ("NothingDone.__init__") 1312, Value.str ("/claim/cut.py") 1313, Value.int 212 0, Value.int 1 0, Value.int 0 0, Value.int 0 0, Value.int 3 0, Value.ref 877, Value.bool Bool.true, Value.int 181 0, Value.ref 878, Value.none, Value.ref 879, Value.ref 880, Value.ref 881, Value.int 1316 0, Value.int 212 0, Value.str ("/claim/cut.py") 1317] }) ::
  (nat_lit 883, { cls := Value.type "function", data := Data.func (ksFn ("__init__") ("NothingDone.__init__") (FX.xA0 { line := 212, col := 17, endLine := 212, endCol := 21 } { line := 0, col := 0, endLine := 0, endCol := 0 } { line := 0, col := 0, endLine := 0, endCol := 0 }) (FX.xB0 ("nothing done") { line := 213, col := 8, endLine := 213, endCol := 13 } { line := 213, col := 8, endLine := 213, endCol := 15 } { line := 213, col := 8, endLine := 213, endCol := 24 } { line := 213, col := 25, endLine := 213, endCol := 39 } { line := 213, col := 8, endLine := 213, endCol := 40 } { line := 213, col := 8, endLine := 213, endCol := 40 } { line := 0, col := 0, endLine := 0, endCol := 0 } { line := 0, col := 0, endLine := 0, endCol := 0 } { line := 0, col := 0, endLine := 0, endCol := 0 } { line := 0, col := 0, endLine := 0, endCol := 0 } { line := 0, col := 0, endLine := 0, endCol := 0 } { line := 0, col := 0, endLine := 0, endCol := 0 } { line := 0, col := 0, endLine := 0, endCol := 0 } { line := 0, col := 0, endLine := 0, endCol := 0 }) FX.xS0 Value.none Value.none Value.none (Value.str ("eachfive.stepfaults") 1243) Option.none (Value.ref 882) (Value.ref 876) 871) }) ::
  (nat_lit 885, { cls := Value.type "dict", data := Data.dict #[{ hash := PyData.keyHash P ("__module__"), key := Value.str ("__module__") 1306, val := Value.str ("eachfive.stepfaults") 1243 }, { hash := PyData.keyHash P ("__firstlineno__"), key := Value.str ("__firstlineno__") 1310, val := Value.int 210 1309 }, { hash := PyData.keyHash P ("__init__"), key := Value.str ("__init__") 1318, val := Value.ref 883 }, { hash := PyData.keyHash P ("__static_attributes__"), key := Value.str ("__static_attributes__") 1319, val := Value.ref 884 }, { hash := PyData.keyHash P ("__doc__"), key := Value.str ("__doc__") 1321, val := Value.none }] 3 }) ::
  (nat_lit 886, { cls := Value.type "type", data := Data.cls { name := "NothingDone", bases := [Value.ref 24], mro := [Value.ref 886, Value.ref 24, Value.type "ValueError", Value.type "Exception", Value.type "BaseException", Value.type "object"], ns := 885, qualname := "NothingDone" }, slots := #[Option.some (Value.ref 868), Option.none, Option.some (Value.str ("NothingDone") 1299), Option.some (Value.str ("NothingDone") 1307), Option.some (Value.builtin "ValueError.__new__"), Option.some (Value.bool Bool.true)] }) ::
  (nat_lit 892, { cls := Value.type "cell", data := Data.cell (Option.some (Value.ref 907)) }) ::
  (nat_lit 903, { cls := Value.type "code", data := Data.fields #[Value.str ("__init__") 1336, Value.str ("NothingUndone.__init__") 1337, Value.str ("/claim/cut.py") 1338, Value.int 216 0, Value.int 1 0, Value.int 0 0, Value.int 0 0, Value.int 3 0, Value.ref 898, Value.bool Bool.true, Value.int 181 0, Value.ref 899, Value.none, Value.ref 900, Value.ref 901, Value.ref 902, Value.int 1341 0, Value.int 216 0, Value.str ("/claim/cut.py") 1342] }) ::
  (nat_lit 904, { cls := Value.type "function", data := Data.func (ksFn ("__init__") ("NothingUndone.__init__") (FX.xA0 { line := 216, col := 17, endLine := 216, endCol := 21 } { line := 0, col := 0, endLine := 0, endCol := 0 } { line := 0, col := 0, endLine := 0, endCol := 0 }) (FX.xB0 ("nothing undone") { line := 217, col := 8, endLine := 217, endCol := 13 } { line := 217, col := 8, endLine := 217, endCol := 15 } { line := 217, col := 8, endLine := 217, endCol := 24 } { line := 217, col := 25, endLine := 217, endCol := 41 } { line := 217, col := 8, endLine := 217, endCol := 42 } { line := 217, col := 8, endLine := 217, endCol := 42 } { line := 0, col := 0, endLine := 0, endCol := 0 } { line := 0, col := 0, endLine := 0, endCol := 0 } { line := 0, col := 0, endLine := 0, endCol := 0 } { line := 0, col := 0, endLine := 0, endCol := 0 } { line := 0, col := 0, endLine := 0, endCol := 0 } { line := 0, col := 0, endLine := 0, endCol := 0 } { line := 0, col := 0, endLine := 0, endCol := 0 } { line := 0, col := 0, endLine := 0, endCol := 0 }) FX.xS0 Value.none Value.none Value.none (Value.str ("eachfive.stepfaults") 1243) Option.none (Value.ref 903) (Value.ref 897) 892) }) ::
  (nat_lit 906, { cls := Value.type "dict", data := Data.dict #[{ hash := PyData.keyHash P ("__module__"), key := Value.str ("__module__") 1331, val := Value.str ("eachfive.stepfaults") 1243 }, { hash := PyData.keyHash P ("__firstlineno__"), key := Value.str ("__firstlineno__") 1335, val := Value.int 214 1334 }, { hash := PyData.keyHash P ("__init__"), key := Value.str ("__init__") 1343, val := Value.ref 904 }, { hash := PyData.keyHash P ("__static_attributes__"), key := Value.str ("__static_attributes__") 1344, val := Value.ref 905 }, { hash := PyData.keyHash P ("__doc__"), key := Value.str ("__doc__") 1346, val := Value.none }] 3 }) ::
  (nat_lit 907, { cls := Value.type "type", data := Data.cls { name := "NothingUndone", bases := [Value.ref 24], mro := [Value.ref 907, Value.ref 24, Value.type "ValueError", Value.type "Exception", Value.type "BaseException", Value.type "object"], ns := 906, qualname := "NothingUndone" }, slots := #[Option.some (Value.ref 889), Option.none, Option.some (Value.str ("NothingUndone") 1324), Option.some (Value.str ("NothingUndone") 1332), Option.some (Value.builtin "ValueError.__new__"), Option.some (Value.bool Bool.true)] }) ::
  (nat_lit 913, { cls := Value.type "cell", data := Data.cell (Option.some (Value.ref 928)) }) ::
  (nat_lit 924, { cls := Value.type "code", data := Data.fields #[Value.str ("__init__") 1361, Value.str ("BadStep.__init__") 1362, Value.str ("/claim/cut.py") 1363, Value.int 220 0, Value.int 2 0, Value.int 0 0, Value.int 0 0, Value.int 3 0, Value.ref 919, Value.bool Bool.true, Value.int 181 0, Value.ref 920, Value.none, Value.ref 921, Value.ref 922, Value.ref 923, Value.int 1367 0, Value.int 220 0, Value.str ("/claim/cut.py") 1368] }) ::
  (nat_lit 925, { cls := Value.type "function", data := Data.func (ksFn ("__init__") ("BadStep.__init__") (FX.xA ("step") { line := 220, col := 17, endLine := 220, endCol := 21 } { line := 220, col := 23, endLine := 220, endCol := 27 }) (FX.xB ("step") ("no step") { line := 221, col := 8, endLine := 221, endCol := 13 } { line := 221, col := 8, endLine := 221, endCol := 15 } { line := 221, col := 8, endLine := 221, endCol := 24 } { line := 221, col := 25, endLine := 221, endCol := 34 } { line := 221, col := 8, endLine := 221, endCol := 35 } { line := 221, col := 8, endLine := 221, endCol := 35 } { line := 222, col := 8, endLine := 222, endCol := 12 } { line := 222, col := 8, endLine := 222, endCol := 17 } { line := 222, col := 20, endLine := 222, endCol := 24 } { line := 222, col := 8, endLine := 222, endCol := 24 }) (FX.xS ("step")) Value.none Value.none Value.none (Value.str ("eachfive.stepfaults") 1243) Option.none (Value.ref 924) (Value.ref 918) 913) }) ::
  (nat_lit 927, { cls := Value.type "dict", data := Data.dict #[{ hash := PyData.keyHash P ("__module__"), key := Value.str ("__module__") 1356, val := Value.str ("eachfive.stepfaults") 1243 }, { hash := PyData.keyHash P ("__firstlineno__"), key := Value.str ("__firstlineno__") 1360, val := Value.int 218 1359 }, { hash := PyData.keyHash P ("__init__"), key := Value.str ("__init__") 1369, val := Value.ref 925 }, { hash := PyData.keyHash P ("__static_attributes__"), key := Value.str ("__static_attributes__") 1371, val := Value.ref 926 }, { hash := PyData.keyHash P ("__doc__"), key := Value.str ("__doc__") 1373, val := Value.none }] 3 }) ::
  (nat_lit 928, { cls := Value.type "type", data := Data.cls { name := "BadStep", bases := [Value.ref 24], mro := [Value.ref 928, Value.ref 24, Value.type "ValueError", Value.type "Exception", Value.type "BaseException", Value.type "object"], ns := 927, qualname := "BadStep" }, slots := #[Option.some (Value.ref 910), Option.none, Option.some (Value.str ("BadStep") 1349), Option.some (Value.str ("BadStep") 1357), Option.some (Value.builtin "ValueError.__new__"), Option.some (Value.bool Bool.true)] }) ::
  (nat_lit 934, { cls := Value.type "cell", data := Data.cell (Option.some (Value.ref 949)) }) ::
  (nat_lit 945, { cls := Value.type "code", data := Data.fields #[Value.str ("__init__") 1388, Value.str ("BadSteps.__init__") 1389, Value.str ("/claim/cut.py") 1390, Value.int 225 0, Value.int 2 0, Value.int 0 0, Value.int 0 0, Value.int 3 0, Value.ref 940, Value.bool Bool.true, Value.int 181 0, Value.ref 941, Value.none, Value.ref 942, Value.ref 943, Value.ref 944, Value.int 1394 0, Value.int 225 0, Value.str ("/claim/cut.py") 1395] }) ::
  (nat_lit 946, { cls := Value.type "function", data := Data.func (ksFn ("__init__") ("BadSteps.__init__") (FX.xA ("steps") { line := 225, col := 17, endLine := 225, endCol := 21 } { line := 225, col := 23, endLine := 225, endCol := 28 }) (FX.xB ("steps") ("no steps") { line := 226, col := 8, endLine := 226, endCol := 13 } { line := 226, col := 8, endLine := 226, endCol := 15 } { line := 226, col := 8, endLine := 226, endCol := 24 } { line := 226, col := 25, endLine := 226, endCol := 35 } { line := 226, col := 8, endLine := 226, endCol := 36 } { line := 226, col := 8, endLine := 226, endCol := 36 } { line := 227, col := 8, endLine := 227, endCol := 12 } { line := 227, col := 8, endLine := 227, endCol := 18 } { line := 227, col := 21, endLine := 227, endCol := 26 } { line := 227, col := 8, endLine := 227, endCol := 26 }) (FX.xS ("steps")) Value.none Value.none Value.none (Value.str ("eachfive.stepfaults") 1243) Option.none (Value.ref 945) (Value.ref 939) 934) }) ::
  (nat_lit 948, { cls := Value.type "dict", data := Data.dict #[{ hash := PyData.keyHash P ("__module__"), key := Value.str ("__module__") 1383, val := Value.str ("eachfive.stepfaults") 1243 }, { hash := PyData.keyHash P ("__firstlineno__"), key := Value.str ("__firstlineno__") 1387, val := Value.int 223 1386 }, { hash := PyData.keyHash P ("__init__"), key := Value.str ("__init__") 1396, val := Value.ref 946 }, { hash := PyData.keyHash P ("__static_attributes__"), key := Value.str ("__static_attributes__") 1398, val := Value.ref 947 }, { hash := PyData.keyHash P ("__doc__"), key := Value.str ("__doc__") 1400, val := Value.none }] 3 }) ::
  (nat_lit 949, { cls := Value.type "type", data := Data.cls { name := "BadSteps", bases := [Value.ref 24], mro := [Value.ref 949, Value.ref 24, Value.type "ValueError", Value.type "Exception", Value.type "BaseException", Value.type "object"], ns := 948, qualname := "BadSteps" }, slots := #[Option.some (Value.ref 931), Option.none, Option.some (Value.str ("BadSteps") 1376), Option.some (Value.str ("BadSteps") 1384), Option.some (Value.builtin "ValueError.__new__"), Option.some (Value.bool Bool.true)] }) ::
  (nat_lit 955, { cls := Value.type "cell", data := Data.cell (Option.some (Value.ref 970)) }) ::
  (nat_lit 966, { cls := Value.type "code", data := Data.fields #[Value.str ("__init__") 1415, Value.str ("Refused.__init__") 1416, Value.str ("/claim/cut.py") 1417, Value.int 230 0, Value.int 2 0, Value.int 0 0, Value.int 0 0, Value.int 3 0, Value.ref 961, Value.bool Bool.true, Value.int 181 0, Value.ref 962, Value.none, Value.ref 963, Value.ref 964, Value.ref 965, Value.int 1421 0, Value.int 230 0, Value.str ("/claim/cut.py") 1422] }) ::
  (nat_lit 967, { cls := Value.type "function", data := Data.func (ksFn ("__init__") ("Refused.__init__") (FX.xA ("fault") { line := 230, col := 17, endLine := 230, endCol := 21 } { line := 230, col := 23, endLine := 230, endCol := 28 }) (FX.xB ("fault") ("refused") { line := 231, col := 8, endLine := 231, endCol := 13 } { line := 231, col := 8, endLine := 231, endCol := 15 } { line := 231, col := 8, endLine := 231, endCol := 24 } { line := 231, col := 25, endLine := 231, endCol := 34 } { line := 231, col := 8, endLine := 231, endCol := 35 } { line := 231, col := 8, endLine := 231, endCol := 35 } { line := 232, col := 8, endLine := 232, endCol := 12 } { line := 232, col := 8, endLine := 232, endCol := 18 } { line := 232, col := 21, endLine := 232, endCol := 26 } { line := 232, col := 8, endLine := 232, endCol := 26 }) (FX.xS ("fault")) Value.none Value.none Value.none (Value.str ("eachfive.stepfaults") 1243) Option.none (Value.ref 966) (Value.ref 960) 955) }) ::
  (nat_lit 969, { cls := Value.type "dict", data := Data.dict #[{ hash := PyData.keyHash P ("__module__"), key := Value.str ("__module__") 1410, val := Value.str ("eachfive.stepfaults") 1243 }, { hash := PyData.keyHash P ("__firstlineno__"), key := Value.str ("__firstlineno__") 1414, val := Value.int 228 1413 }, { hash := PyData.keyHash P ("__init__"), key := Value.str ("__init__") 1423, val := Value.ref 967 }, { hash := PyData.keyHash P ("__static_attributes__"), key := Value.str ("__static_attributes__") 1425, val := Value.ref 968 }, { hash := PyData.keyHash P ("__doc__"), key := Value.str ("__doc__") 1427, val := Value.none }] 3 }) ::
  (nat_lit 970, { cls := Value.type "type", data := Data.cls { name := "Refused", bases := [Value.ref 24], mro := [Value.ref 970, Value.ref 24, Value.type "ValueError", Value.type "Exception", Value.type "BaseException", Value.type "object"], ns := 969, qualname := "Refused" }, slots := #[Option.some (Value.ref 952), Option.none, Option.some (Value.str ("Refused") 1403), Option.some (Value.str ("Refused") 1411), Option.some (Value.builtin "ValueError.__new__"), Option.some (Value.bool Bool.true)] }) ::
  (nat_lit 976, { cls := Value.type "cell", data := Data.cell (Option.some (Value.ref 991)) }) ::
  (nat_lit 987, { cls := Value.type "code", data := Data.fields #[Value.str ("__init__") 1442, Value.str ("BadText.__init__") 1443, Value.str ("/claim/cut.py") 1444, Value.int 235 0, Value.int 3 0, Value.int 0 0, Value.int 0 0, Value.int 3 0, Value.ref 982, Value.bool Bool.true, Value.int 181 0, Value.ref 983, Value.none, Value.ref 984, Value.ref 985, Value.ref 986, Value.int 1449 0, Value.int 235 0, Value.str ("/claim/cut.py") 1450] }) ::
  (nat_lit 988, { cls := Value.type "function", data := Data.func (ksFn ("__init__") ("BadText.__init__") (FX.xA2 { line := 235, col := 17, endLine := 235, endCol := 21 } { line := 235, col := 23, endLine := 235, endCol := 27 } { line := 235, col := 29, endLine := 235, endCol := 33 }) (FX.xB2 ("no such text") { line := 236, col := 8, endLine := 236, endCol := 13 } { line := 236, col := 8, endLine := 236, endCol := 15 } { line := 236, col := 8, endLine := 236, endCol := 24 } { line := 236, col := 25, endLine := 236, endCol := 39 } { line := 236, col := 8, endLine := 236, endCol := 40 } { line := 236, col := 8, endLine := 236, endCol := 40 } { line := 237, col := 8, endLine := 237, endCol := 12 } { line := 237, col := 8, endLine := 237, endCol := 17 } { line := 237, col := 20, endLine := 237, endCol := 24 } { line := 237, col := 8, endLine := 237, endCol := 24 } { line := 238, col := 8, endLine := 238, endCol := 12 } { line := 238, col := 8, endLine := 238, endCol := 17 } { line := 238, col := 20, endLine := 238, endCol := 24 } { line := 238, col := 8, endLine := 238, endCol := 24 }) FX.xS2 Value.none Value.none Value.none (Value.str ("eachfive.stepfaults") 1243) Option.none (Value.ref 987) (Value.ref 981) 976) }) ::
  (nat_lit 990, { cls := Value.type "dict", data := Data.dict #[{ hash := PyData.keyHash P ("__module__"), key := Value.str ("__module__") 1437, val := Value.str ("eachfive.stepfaults") 1243 }, { hash := PyData.keyHash P ("__firstlineno__"), key := Value.str ("__firstlineno__") 1441, val := Value.int 233 1440 }, { hash := PyData.keyHash P ("__init__"), key := Value.str ("__init__") 1451, val := Value.ref 988 }, { hash := PyData.keyHash P ("__static_attributes__"), key := Value.str ("__static_attributes__") 1454, val := Value.ref 989 }, { hash := PyData.keyHash P ("__doc__"), key := Value.str ("__doc__") 1456, val := Value.none }] 3 }) ::
  (nat_lit 991, { cls := Value.type "type", data := Data.cls { name := "BadText", bases := [Value.ref 24], mro := [Value.ref 991, Value.ref 24, Value.type "ValueError", Value.type "Exception", Value.type "BaseException", Value.type "object"], ns := 990, qualname := "BadText" }, slots := #[Option.some (Value.ref 973), Option.none, Option.some (Value.str ("BadText") 1430), Option.some (Value.str ("BadText") 1438), Option.some (Value.builtin "ValueError.__new__"), Option.some (Value.bool Bool.true)] }) ::
  (nat_lit 997, { cls := Value.type "cell", data := Data.cell (Option.some (Value.ref 1012)) }) ::
  (nat_lit 1008, { cls := Value.type "code", data := Data.fields #[Value.str ("__init__") 1471, Value.str ("BadJournal.__init__") 1472, Value.str ("/claim/cut.py") 1473, Value.int 241 0, Value.int 2 0, Value.int 0 0, Value.int 0 0, Value.int 3 0, Value.ref 1003, Value.bool Bool.true, Value.int 181 0, Value.ref 1004, Value.none, Value.ref 1005, Value.ref 1006, Value.ref 1007, Value.int 1477 0, Value.int 241 0, Value.str ("/claim/cut.py") 1478] }) ::
  (nat_lit 1009, { cls := Value.type "function", data := Data.func (ksFn ("__init__") ("BadJournal.__init__") (FX.xA ("journal") { line := 241, col := 17, endLine := 241, endCol := 21 } { line := 241, col := 23, endLine := 241, endCol := 30 }) (FX.xB ("journal") ("no right journal") { line := 242, col := 8, endLine := 242, endCol := 13 } { line := 242, col := 8, endLine := 242, endCol := 15 } { line := 242, col := 8, endLine := 242, endCol := 24 } { line := 242, col := 25, endLine := 242, endCol := 43 } { line := 242, col := 8, endLine := 242, endCol := 44 } { line := 242, col := 8, endLine := 242, endCol := 44 } { line := 243, col := 8, endLine := 243, endCol := 12 } { line := 243, col := 8, endLine := 243, endCol := 20 } { line := 243, col := 23, endLine := 243, endCol := 30 } { line := 243, col := 8, endLine := 243, endCol := 30 }) (FX.xS ("journal")) Value.none Value.none Value.none (Value.str ("eachfive.stepfaults") 1243) Option.none (Value.ref 1008) (Value.ref 1002) 997) }) ::
  (nat_lit 1011, { cls := Value.type "dict", data := Data.dict #[{ hash := PyData.keyHash P ("__module__"), key := Value.str ("__module__") 1466, val := Value.str ("eachfive.stepfaults") 1243 }, { hash := PyData.keyHash P ("__firstlineno__"), key := Value.str ("__firstlineno__") 1470, val := Value.int 239 1469 }, { hash := PyData.keyHash P ("__init__"), key := Value.str ("__init__") 1479, val := Value.ref 1009 }, { hash := PyData.keyHash P ("__static_attributes__"), key := Value.str ("__static_attributes__") 1481, val := Value.ref 1010 }, { hash := PyData.keyHash P ("__doc__"), key := Value.str ("__doc__") 1483, val := Value.none }] 3 }) ::
  (nat_lit 1012, { cls := Value.type "type", data := Data.cls { name := "BadJournal", bases := [Value.ref 24], mro := [Value.ref 1012, Value.ref 24, Value.type "ValueError", Value.type "Exception", Value.type "BaseException", Value.type "object"], ns := 1011, qualname := "BadJournal" }, slots := #[Option.some (Value.ref 994), Option.none, Option.some (Value.str ("BadJournal") 1459), Option.some (Value.str ("BadJournal") 1467), Option.some (Value.builtin "ValueError.__new__"), Option.some (Value.bool Bool.true)] }) ::
  (nat_lit 1018, { cls := Value.type "cell", data := Data.cell (Option.some (Value.ref 1033)) }) ::
  (nat_lit 1029, { cls := Value.type "code", data := Data.fields #[Value.str ("__init__") 1500, Value.str ("BadNumbering.__init__") 1501, Value.str ("/claim/cut.py") 1502, Value.int 247 0, Value.int 2 0, Value.int 0 0, Value.int 0 0, Value.int 3 0, Value.ref 1024, Value.bool Bool.true, Value.int 181 0, Value.ref 1025, Value.none, Value.ref 1026, Value.ref 1027, Value.ref 1028, Value.int 1506 0, Value.int 247 0, Value.str ("/claim/cut.py") 1507] }) ::
  (nat_lit 1030, { cls := Value.type "function", data := Data.func (ksFn ("__init__") ("BadNumbering.__init__") (FX.xA ("numbering") { line := 247, col := 17, endLine := 247, endCol := 21 } { line := 247, col := 23, endLine := 247, endCol := 32 }) (FX.xB ("numbering") ("no numbering") { line := 248, col := 8, endLine := 248, endCol := 13 } { line := 248, col := 8, endLine := 248, endCol := 15 } { line := 248, col := 8, endLine := 248, endCol := 24 } { line := 248, col := 25, endLine := 248, endCol := 39 } { line := 248, col := 8, endLine := 248, endCol := 40 } { line := 248, col := 8, endLine := 248, endCol := 40 } { line := 249, col := 8, endLine := 249, endCol := 12 } { line := 249, col := 8, endLine := 249, endCol := 22 } { line := 249, col := 25, endLine := 249, endCol := 34 } { line := 249, col := 8, endLine := 249, endCol := 34 }) (FX.xS ("numbering")) Value.none Value.none Value.none (Value.str ("eachfive.vectorfaults") 1486) Option.none (Value.ref 1029) (Value.ref 1023) 1018) }) ::
  (nat_lit 1032, { cls := Value.type "dict", data := Data.dict #[{ hash := PyData.keyHash P ("__module__"), key := Value.str ("__module__") 1495, val := Value.str ("eachfive.vectorfaults") 1486 }, { hash := PyData.keyHash P ("__firstlineno__"), key := Value.str ("__firstlineno__") 1499, val := Value.int 245 1498 }, { hash := PyData.keyHash P ("__init__"), key := Value.str ("__init__") 1508, val := Value.ref 1030 }, { hash := PyData.keyHash P ("__static_attributes__"), key := Value.str ("__static_attributes__") 1510, val := Value.ref 1031 }, { hash := PyData.keyHash P ("__doc__"), key := Value.str ("__doc__") 1512, val := Value.none }] 3 }) ::
  (nat_lit 1033, { cls := Value.type "type", data := Data.cls { name := "BadNumbering", bases := [Value.ref 24], mro := [Value.ref 1033, Value.ref 24, Value.type "ValueError", Value.type "Exception", Value.type "BaseException", Value.type "object"], ns := 1032, qualname := "BadNumbering" }, slots := #[Option.some (Value.ref 1015), Option.none, Option.some (Value.str ("BadNumbering") 1488), Option.some (Value.str ("BadNumbering") 1496), Option.some (Value.builtin "ValueError.__new__"), Option.some (Value.bool Bool.true)] }) ::
  (nat_lit 1039, { cls := Value.type "cell", data := Data.cell (Option.some (Value.ref 1054)) }) ::
  (nat_lit 1050, { cls := Value.type "code", data := Data.fields #[Value.str ("__init__") 1527, Value.str ("BadVector.__init__") 1528, Value.str ("/claim/cut.py") 1529, Value.int 252 0, Value.int 2 0, Value.int 0 0, Value.int 0 0, Value.int 3 0, Value.ref 1045, Value.bool Bool.true, Value.int 181 0, Value.ref 1046, Value.none, Value.ref 1047, Value.ref 1048, Value.ref 1049, Value.int 1533 0, Value.int 252 0, Value.str ("/claim/cut.py") 1534] }) ::
  (nat_lit 1051, { cls := Value.type "function", data := Data.func (ksFn ("__init__") ("BadVector.__init__") (FX.xA ("vector") { line := 252, col := 17, endLine := 252, endCol := 21 } { line := 252, col := 23, endLine := 252, endCol := 29 }) (FX.xB ("vector") ("no vector") { line := 253, col := 8, endLine := 253, endCol := 13 } { line := 253, col := 8, endLine := 253, endCol := 15 } { line := 253, col := 8, endLine := 253, endCol := 24 } { line := 253, col := 25, endLine := 253, endCol := 36 } { line := 253, col := 8, endLine := 253, endCol := 37 } { line := 253, col := 8, endLine := 253, endCol := 37 } { line := 254, col := 8, endLine := 254, endCol := 12 } { line := 254, col := 8, endLine := 254, endCol := 19 } { line := 254, col := 22, endLine := 254, endCol := 28 } { line := 254, col := 8, endLine := 254, endCol := 28 }) (FX.xS ("vector")) Value.none Value.none Value.none (Value.str ("eachfive.vectorfaults") 1486) Option.none (Value.ref 1050) (Value.ref 1044) 1039) }) ::
  (nat_lit 1053, { cls := Value.type "dict", data := Data.dict #[{ hash := PyData.keyHash P ("__module__"), key := Value.str ("__module__") 1522, val := Value.str ("eachfive.vectorfaults") 1486 }, { hash := PyData.keyHash P ("__firstlineno__"), key := Value.str ("__firstlineno__") 1526, val := Value.int 250 1525 }, { hash := PyData.keyHash P ("__init__"), key := Value.str ("__init__") 1535, val := Value.ref 1051 }, { hash := PyData.keyHash P ("__static_attributes__"), key := Value.str ("__static_attributes__") 1537, val := Value.ref 1052 }, { hash := PyData.keyHash P ("__doc__"), key := Value.str ("__doc__") 1539, val := Value.none }] 3 }) ::
  (nat_lit 1054, { cls := Value.type "type", data := Data.cls { name := "BadVector", bases := [Value.ref 24], mro := [Value.ref 1054, Value.ref 24, Value.type "ValueError", Value.type "Exception", Value.type "BaseException", Value.type "object"], ns := 1053, qualname := "BadVector" }, slots := #[Option.some (Value.ref 1036), Option.none, Option.some (Value.str ("BadVector") 1515), Option.some (Value.str ("BadVector") 1523), Option.some (Value.builtin "ValueError.__new__"), Option.some (Value.bool Bool.true)] }) ::
  (nat_lit 1060, { cls := Value.type "cell", data := Data.cell (Option.some (Value.ref 1075)) }) ::
  (nat_lit 1071, { cls := Value.type "code", data := Data.fields #[Value.str ("__init__") 1554, Value.str ("NoVector.__init__") 1555, Value.str ("/claim/cut.py") 1556, Value.int 257 0, Value.int 2 0, Value.int 0 0, Value.int 0 0, Value.int 3 0, Value.ref 1066, Value.bool Bool.true, Value.int 181 0, Value.ref 1067, Value.none, Value.ref 1068, Value.ref 1069, Value.ref 1070, Value.int 1560 0, Value.int 257 0, Value.str ("/claim/cut.py") 1561] }) ::
  (nat_lit 1072, { cls := Value.type "function", data := Data.func (ksFn ("__init__") ("NoVector.__init__") (FX.xA ("index") { line := 257, col := 17, endLine := 257, endCol := 21 } { line := 257, col := 23, endLine := 257, endCol := 28 }) (FX.xB ("index") ("no vector of this index") { line := 258, col := 8, endLine := 258, endCol := 13 } { line := 258, col := 8, endLine := 258, endCol := 15 } { line := 258, col := 8, endLine := 258, endCol := 24 } { line := 258, col := 25, endLine := 258, endCol := 50 } { line := 258, col := 8, endLine := 258, endCol := 51 } { line := 258, col := 8, endLine := 258, endCol := 51 } { line := 259, col := 8, endLine := 259, endCol := 12 } { line := 259, col := 8, endLine := 259, endCol := 18 } { line := 259, col := 21, endLine := 259, endCol := 26 } { line := 259, col := 8, endLine := 259, endCol := 26 }) (FX.xS ("index")) Value.none Value.none Value.none (Value.str ("eachfive.vectorfaults") 1486) Option.none (Value.ref 1071) (Value.ref 1065) 1060) }) ::
  (nat_lit 1074, { cls := Value.type "dict", data := Data.dict #[{ hash := PyData.keyHash P ("__module__"), key := Value.str ("__module__") 1549, val := Value.str ("eachfive.vectorfaults") 1486 }, { hash := PyData.keyHash P ("__firstlineno__"), key := Value.str ("__firstlineno__") 1553, val := Value.int 255 1552 }, { hash := PyData.keyHash P ("__init__"), key := Value.str ("__init__") 1562, val := Value.ref 1072 }, { hash := PyData.keyHash P ("__static_attributes__"), key := Value.str ("__static_attributes__") 1564, val := Value.ref 1073 }, { hash := PyData.keyHash P ("__doc__"), key := Value.str ("__doc__") 1566, val := Value.none }] 3 }) ::
  (nat_lit 1075, { cls := Value.type "type", data := Data.cls { name := "NoVector", bases := [Value.ref 24], mro := [Value.ref 1075, Value.ref 24, Value.type "ValueError", Value.type "Exception", Value.type "BaseException", Value.type "object"], ns := 1074, qualname := "NoVector" }, slots := #[Option.some (Value.ref 1057), Option.none, Option.some (Value.str ("NoVector") 1542), Option.some (Value.str ("NoVector") 1550), Option.some (Value.builtin "ValueError.__new__"), Option.some (Value.bool Bool.true)] }) ::
  (nat_lit 1081, { cls := Value.type "cell", data := Data.cell (Option.some (Value.ref 1096)) }) ::
  (nat_lit 1092, { cls := Value.type "code", data := Data.fields #[Value.str ("__init__") 1581, Value.str ("TooGreat.__init__") 1582, Value.str ("/claim/cut.py") 1583, Value.int 262 0, Value.int 2 0, Value.int 0 0, Value.int 0 0, Value.int 3 0, Value.ref 1087, Value.bool Bool.true, Value.int 181 0, Value.ref 1088, Value.none, Value.ref 1089, Value.ref 1090, Value.ref 1091, Value.int 1587 0, Value.int 262 0, Value.str ("/claim/cut.py") 1588] }) ::
  (nat_lit 1093, { cls := Value.type "function", data := Data.func (ksFn ("__init__") ("TooGreat.__init__") (FX.xA ("name") { line := 262, col := 17, endLine := 262, endCol := 21 } { line := 262, col := 23, endLine := 262, endCol := 27 }) (FX.xB ("name") ("too great a number") { line := 263, col := 8, endLine := 263, endCol := 13 } { line := 263, col := 8, endLine := 263, endCol := 15 } { line := 263, col := 8, endLine := 263, endCol := 24 } { line := 263, col := 25, endLine := 263, endCol := 45 } { line := 263, col := 8, endLine := 263, endCol := 46 } { line := 263, col := 8, endLine := 263, endCol := 46 } { line := 264, col := 8, endLine := 264, endCol := 12 } { line := 264, col := 8, endLine := 264, endCol := 17 } { line := 264, col := 20, endLine := 264, endCol := 24 } { line := 264, col := 8, endLine := 264, endCol := 24 }) (FX.xS ("name")) Value.none Value.none Value.none (Value.str ("eachfive.vectorfaults") 1486) Option.none (Value.ref 1092) (Value.ref 1086) 1081) }) ::
  (nat_lit 1095, { cls := Value.type "dict", data := Data.dict #[{ hash := PyData.keyHash P ("__module__"), key := Value.str ("__module__") 1576, val := Value.str ("eachfive.vectorfaults") 1486 }, { hash := PyData.keyHash P ("__firstlineno__"), key := Value.str ("__firstlineno__") 1580, val := Value.int 260 1579 }, { hash := PyData.keyHash P ("__init__"), key := Value.str ("__init__") 1589, val := Value.ref 1093 }, { hash := PyData.keyHash P ("__static_attributes__"), key := Value.str ("__static_attributes__") 1591, val := Value.ref 1094 }, { hash := PyData.keyHash P ("__doc__"), key := Value.str ("__doc__") 1593, val := Value.none }] 3 }) ::
  (nat_lit 1096, { cls := Value.type "type", data := Data.cls { name := "TooGreat", bases := [Value.ref 24], mro := [Value.ref 1096, Value.ref 24, Value.type "ValueError", Value.type "Exception", Value.type "BaseException", Value.type "object"], ns := 1095, qualname := "TooGreat" }, slots := #[Option.some (Value.ref 1078), Option.none, Option.some (Value.str ("TooGreat") 1569), Option.some (Value.str ("TooGreat") 1577), Option.some (Value.builtin "ValueError.__new__"), Option.some (Value.bool Bool.true)] }) ::
  (nat_lit 1104, { cls := Value.type "code", data := Data.fields #[Value.str ("_law_spring") 1598, Value.str ("_law_spring") 1599, Value.str ("/claim/cut.py") 1600, Value.int 266 0, Value.int 2 0, Value.int 0 0, Value.int 0 0, Value.int 3 0, Value.ref 1099, Value.bool Bool.true, Value.int 181 0, Value.ref 1100, Value.none, Value.ref 1101, Value.ref 1102, Value.ref 1103, Value.int 1607 0, Value.int 266 0, Value.str ("/claim/cut.py") 1608] }) ::
  (nat_lit 1105, { cls := Value.type "function", data := Data.func (fnOf ("_law_spring") ("_law_spring") (L2.defArgs K00.s__law_spring) (L2.defBody K00.s__law_spring) (L2.defScope K00.s__law_spring) Value.none Value.none Value.none (Value.str ("law_eachfive_k00_errors_made") 1596) Option.none (Value.ref 1104) Value.none) }) ::
  (nat_lit 1111, { cls := Value.type "code", data := Data.fields #[Value.str ("_law_draw") 1610, Value.str ("_law_draw") 1611, Value.str ("/claim/cut.py") 1612, Value.int 271 0, Value.int 2 0, Value.int 0 0, Value.int 0 0, Value.int 3 0, Value.ref 1106, Value.bool Bool.true, Value.int 181 0, Value.ref 1107, Value.none, Value.ref 1108, Value.ref 1109, Value.ref 1110, Value.int 1617 0, Value.int 271 0, Value.str ("/claim/cut.py") 1618] }) ::
  (nat_lit 1112, { cls := Value.type "function", data := Data.func (fnOf ("_law_draw") ("_law_draw") (L2.defArgs K00.s__law_draw) (L2.defBody K00.s__law_draw) (L2.defScope K00.s__law_draw) Value.none Value.none Value.none (Value.str ("law_eachfive_k00_errors_made") 1596) Option.none (Value.ref 1111) Value.none) }) ::
  (nat_lit 1118, { cls := Value.type "code", data := Data.fields #[Value.str ("_law_pick") 1620, Value.str ("_law_pick") 1621, Value.str ("/claim/cut.py") 1622, Value.int 279 0, Value.int 2 0, Value.int 0 0, Value.int 0 0, Value.int 3 0, Value.ref 1113, Value.bool Bool.true, Value.int 181 0, Value.ref 1114, Value.none, Value.ref 1115, Value.ref 1116, Value.ref 1117, Value.int 1625 0, Value.int 279 0, Value.str ("/claim/cut.py") 1626] }) ::
  (nat_lit 1119, { cls := Value.type "function", data := Data.func (fnOf ("_law_pick") ("_law_pick") (L2.defArgs K00.s__law_pick) (L2.defBody K00.s__law_pick) (L2.defScope K00.s__law_pick) Value.none Value.none Value.none (Value.str ("law_eachfive_k00_errors_made") 1596) Option.none (Value.ref 1118) Value.none) }) ::
  (nat_lit 1130, { cls := Value.type "code", data := Data.fields #[Value.str ("_law_very") 1634, Value.str ("_law_very") 1635, Value.str ("/claim/cut.py") 1636, Value.int 284 0, Value.int 2 0, Value.int 0 0, Value.int 0 0, Value.int 3 0, Value.ref 1125, Value.bool Bool.true, Value.int 181 0, Value.ref 1126, Value.none, Value.ref 1127, Value.ref 1128, Value.ref 1129, Value.int 1640 0, Value.int 284 0, Value.str ("/claim/cut.py") 1641] }) ::
  (nat_lit 1131, { cls := Value.type "function", data := Data.func (fnOf ("_law_very") ("_law_very") (L2.defArgs K00.s__law_very) (L2.defBody K00.s__law_very) (L2.defScope K00.s__law_very) Value.none Value.none Value.none (Value.str ("law_eachfive_k00_errors_made") 1596) Option.none (Value.ref 1130) Value.none) }) ::
  (nat_lit 1135, { cls := Value.type "code", data := Data.fields #[Value.str ("_law_same") 1643, Value.str ("_law_same") 1644, Value.str ("/claim/cut.py") 1645, Value.int 298 0, Value.int 2 0, Value.int 0 0, Value.int 0 0, Value.int 3 0, Value.ref 1132, Value.bool Bool.true, Value.int 181 0, Value.ref 1133, Value.none, Value.none, Value.none, Value.ref 1134, Value.int 1646 0, Value.int 298 0, Value.str ("/claim/cut.py") 1647] }) ::
  (nat_lit 1136, { cls := Value.type "function", data := Data.func (fnOf ("_law_same") ("_law_same") (L2.defArgs K00.s__law_same) (L2.defBody K00.s__law_same) (L2.defScope K00.s__law_same) Value.none Value.none Value.none (Value.str ("law_eachfive_k00_errors_made") 1596) Option.none (Value.ref 1135) Value.none) }) ::
  (nat_lit 1142, { cls := Value.type "code", data := Data.fields #[Value.str ("_law_e_first") 1649, Value.str ("_law_e_first") 1650, Value.str ("/claim/cut.py") 1651, Value.int 309 0, Value.int 1 0, Value.int 0 0, Value.int 0 0, Value.int 3 0, Value.ref 1137, Value.bool Bool.true, Value.int 181 0, Value.ref 1138, Value.none, Value.ref 1139, Value.ref 1140, Value.ref 1141, Value.int 1654 0, Value.int 309 0, Value.str ("/claim/cut.py") 1655] }) ::
  (nat_lit 1143, { cls := Value.type "function", data := Data.func (fnOf ("_law_e_first") ("_law_e_first") (L2.defArgs K00.s__law_e_first) (L2.defBody K00.s__law_e_first) (L2.defScope K00.s__law_e_first) Value.none Value.none Value.none (Value.str ("law_eachfive_k00_errors_made") 1596) Option.none (Value.ref 1142) Value.none) }) ::
  (nat_lit 1149, { cls := Value.type "code", data := Data.fields #[Value.str ("_law_e_second") 1657, Value.str ("_law_e_second") 1658, Value.str ("/claim/cut.py") 1659, Value.int 328 0, Value.int 1 0, Value.int 0 0, Value.int 0 0, Value.int 3 0, Value.ref 1144, Value.bool Bool.true, Value.int 181 0, Value.ref 1145, Value.none, Value.ref 1146, Value.ref 1147, Value.ref 1148, Value.int 1662 0, Value.int 328 0, Value.str ("/claim/cut.py") 1663] }) ::
  (nat_lit 1150, { cls := Value.type "function", data := Data.func (fnOf ("_law_e_second") ("_law_e_second") (L2.defArgs K00.s__law_e_second) (L2.defBody K00.s__law_e_second) (L2.defScope K00.s__law_e_second) Value.none Value.none Value.none (Value.str ("law_eachfive_k00_errors_made") 1596) Option.none (Value.ref 1149) Value.none) }) ::
  (nat_lit 1156, { cls := Value.type "code", data := Data.fields #[Value.str ("_law_e_third") 1665, Value.str ("_law_e_third") 1666, Value.str ("/claim/cut.py") 1667, Value.int 347 0, Value.int 1 0, Value.int 0 0, Value.int 0 0, Value.int 3 0, Value.ref 1151, Value.bool Bool.true, Value.int 181 0, Value.ref 1152, Value.none, Value.ref 1153, Value.ref 1154, Value.ref 1155, Value.int 1670 0, Value.int 347 0, Value.str ("/claim/cut.py") 1671] }) ::
  (nat_lit 1157, { cls := Value.type "function", data := Data.func (fnOf ("_law_e_third") ("_law_e_third") (L2.defArgs K00.s__law_e_third) (L2.defBody K00.s__law_e_third) (L2.defScope K00.s__law_e_third) Value.none Value.none Value.none (Value.str ("law_eachfive_k00_errors_made") 1596) Option.none (Value.ref 1156) Value.none) }) ::
  (nat_lit 1163, { cls := Value.type "code", data := Data.fields #[Value.str ("_law_e_fourth") 1673, Value.str ("_law_e_fourth") 1674, Value.str ("/claim/cut.py") 1675, Value.int 366 0, Value.int 2 0, Value.int 0 0, Value.int 0 0, Value.int 3 0, Value.ref 1158, Value.bool Bool.true, Value.int 181 0, Value.ref 1159, Value.none, Value.ref 1160, Value.ref 1161, Value.ref 1162, Value.int 1679 0, Value.int 366 0, Value.str ("/claim/cut.py") 1680] }) ::
  (nat_lit 1164, { cls := Value.type "function", data := Data.func (fnOf ("_law_e_fourth") ("_law_e_fourth") (L2.defArgs K00.s__law_e_fourth) (L2.defBody K00.s__law_e_fourth) (L2.defScope K00.s__law_e_fourth) Value.none Value.none Value.none (Value.str ("law_eachfive_k00_errors_made") 1596) Option.none (Value.ref 1163) Value.none) }) ::
  (nat_lit 1170, { cls := Value.type "code", data := Data.fields #[Value.str ("_law_e_kinds") 1682, Value.str ("_law_e_kinds") 1683, Value.str ("/claim/cut.py") 1684, Value.int 370 0, Value.int 1 0, Value.int 0 0, Value.int 0 0, Value.int 3 0, Value.ref 1165, Value.bool Bool.true, Value.int 181 0, Value.ref 1166, Value.none, Value.ref 1167, Value.ref 1168, Value.ref 1169, Value.int 1686 0, Value.int 370 0, Value.str ("/claim/cut.py") 1687] }) ::
  (nat_lit 1171, { cls := Value.type "function", data := Data.func (fnOf ("_law_e_kinds") ("_law_e_kinds") (L2.defArgs K00.s__law_e_kinds) (L2.defBody K00.s__law_e_kinds) (L2.defScope K00.s__law_e_kinds) Value.none Value.none Value.none (Value.str ("law_eachfive_k00_errors_made") 1596) Option.none (Value.ref 1170) Value.none) }) ::
  (nat_lit 1175, { cls := Value.type "code", data := Data.fields #[Value.str ("_law_e_drawn") 1689, Value.str ("_law_e_drawn") 1690, Value.str ("/claim/cut.py") 1691, Value.int 372 0, Value.int 1 0, Value.int 0 0, Value.int 0 0, Value.int 3 0, Value.ref 1172, Value.bool Bool.true, Value.int 181 0, Value.ref 1173, Value.none, Value.none, Value.none, Value.ref 1174, Value.int 1692 0, Value.int 372 0, Value.str ("/claim/cut.py") 1693] }) ::
  (nat_lit 1176, { cls := Value.type "function", data := Data.func (fnOf ("_law_e_drawn") ("_law_e_drawn") (L2.defArgs K00.s__law_e_drawn) (L2.defBody K00.s__law_e_drawn) (L2.defScope K00.s__law_e_drawn) Value.none Value.none Value.none (Value.str ("law_eachfive_k00_errors_made") 1596) Option.none (Value.ref 1175) Value.none) }) ::
  (nat_lit 1180, { cls := Value.type "code", data := Data.fields #[Value.str ("_law_e_right") 1695, Value.str ("_law_e_right") 1696, Value.str ("/claim/cut.py") 1697, Value.int 385 0, Value.int 2 0, Value.int 0 0, Value.int 0 0, Value.int 3 0, Value.ref 1177, Value.bool Bool.true, Value.int 181 0, Value.ref 1178, Value.none, Value.none, Value.none, Value.ref 1179, Value.int 1698 0, Value.int 385 0, Value.str ("/claim/cut.py") 1699] }) ::
  (nat_lit 1181, { cls := Value.type "function", data := Data.func (fnOf ("_law_e_right") ("_law_e_right") (L2.defArgs K00.s__law_e_right) (L2.defBody K00.s__law_e_right) (L2.defScope K00.s__law_e_right) Value.none Value.none Value.none (Value.str ("law_eachfive_k00_errors_made") 1596) Option.none (Value.ref 1180) Value.none) }) ::
  (nat_lit 1185, { cls := Value.type "code", data := Data.fields #[Value.str ("law") 1701, Value.str ("law") 1702, Value.str ("/claim/cut.py") 1703, Value.int 396 0, Value.int 1 0, Value.int 0 0, Value.int 0 0, Value.int 3 0, Value.ref 1182, Value.bool Bool.true, Value.int 181 0, Value.ref 1183, Value.none, Value.none, Value.none, Value.ref 1184, Value.int 1704 0, Value.int 396 0, Value.str ("/claim/cut.py") 1705] }) ::
  (nat_lit 1186, { cls := Value.type "function", data := Data.func (fnOf ("law") ("law") (L2.defArgs K00.s_law) (L2.defBody K00.s_law) (L2.defScope K00.s_law) Value.none Value.none Value.none (Value.str ("law_eachfive_k00_errors_made") 1596) Option.none (Value.ref 1185) Value.none) }) ::
  []
def K00.as : List Addr :=
  nat_lit 2 :: nat_lit 3 :: nat_lit 23 :: nat_lit 24 :: nat_lit 31 :: nat_lit 42 :: nat_lit 43 :: nat_lit 45 :: nat_lit 46 :: nat_lit 52 :: nat_lit 63 :: nat_lit 64 :: nat_lit 66 :: nat_lit 67 :: nat_lit 73 :: nat_lit 84 :: nat_lit 85 :: nat_lit 87 :: nat_lit 88 :: nat_lit 94 :: nat_lit 105 :: nat_lit 106 :: nat_lit 108 :: nat_lit 109 :: nat_lit 115 :: nat_lit 126 :: nat_lit 127 :: nat_lit 129 :: nat_lit 130 :: nat_lit 136 :: nat_lit 147 :: nat_lit 148 :: nat_lit 150 :: nat_lit 151 :: nat_lit 157 :: nat_lit 168 :: nat_lit 169 :: nat_lit 171 :: nat_lit 172 :: nat_lit 178 :: nat_lit 189 :: nat_lit 190 :: nat_lit 192 :: nat_lit 193 :: nat_lit 199 :: nat_lit 210 :: nat_lit 211 :: nat_lit 213 :: nat_lit 214 :: nat_lit 220 :: nat_lit 231 :: nat_lit 232 :: nat_lit 234 :: nat_lit 235 :: nat_lit 241 :: nat_lit 252 :: nat_lit 253 :: nat_lit 255 :: nat_lit 256 :: nat_lit 262 :: nat_lit 273 :: nat_lit 274 :: nat_lit 276 :: nat_lit 277 :: nat_lit 283 :: nat_lit 294 :: nat_lit 295 :: nat_lit 297 :: nat_lit 298 :: nat_lit 304 :: nat_lit 315 :: nat_lit 316 :: nat_lit 318 :: nat_lit 319 :: nat_lit 325 :: nat_lit 336 :: nat_lit 337 :: nat_lit 339 :: nat_lit 340 :: nat_lit 346 :: nat_lit 357 :: nat_lit 358 :: nat_lit 360 :: nat_lit 361 :: nat_lit 367 :: nat_lit 378 :: nat_lit 379 :: nat_lit 381 :: nat_lit 382 :: nat_lit 388 :: nat_lit 399 :: nat_lit 400 :: nat_lit 402 :: nat_lit 403 :: nat_lit 409 :: nat_lit 420 :: nat_lit 421 :: nat_lit 423 :: nat_lit 424 :: nat_lit 430 :: nat_lit 441 :: nat_lit 442 :: nat_lit 444 :: nat_lit 445 :: nat_lit 451 :: nat_lit 462 :: nat_lit 463 :: nat_lit 465 :: nat_lit 466 :: nat_lit 472 :: nat_lit 483 :: nat_lit 484 :: nat_lit 486 :: nat_lit 487 :: nat_lit 493 :: nat_lit 504 :: nat_lit 505 :: nat_lit 507 :: nat_lit 508 :: nat_lit 514 :: nat_lit 525 :: nat_lit 526 :: nat_lit 528 :: nat_lit 529 :: nat_lit 535 :: nat_lit 546 :: nat_lit 547 :: nat_lit 549 :: nat_lit 550 :: nat_lit 556 :: nat_lit 567 :: nat_lit 568 :: nat_lit 570 :: nat_lit 571 :: nat_lit 577 :: nat_lit 588 :: nat_lit 589 :: nat_lit 591 :: nat_lit 592 :: nat_lit 598 :: nat_lit 609 :: nat_lit 610 :: nat_lit 612 :: nat_lit 613 :: nat_lit 619 :: nat_lit 630 :: nat_lit 631 :: nat_lit 633 :: nat_lit 634 :: nat_lit 640 :: nat_lit 651 :: nat_lit 652 :: nat_lit 654 :: nat_lit 655 :: nat_lit 661 :: nat_lit 672 :: nat_lit 673 :: nat_lit 675 :: nat_lit 676 :: nat_lit 682 :: nat_lit 693 :: nat_lit 694 :: nat_lit 696 :: nat_lit 697 :: nat_lit 703 :: nat_lit 714 :: nat_lit 715 :: nat_lit 717 :: nat_lit 718 :: nat_lit 724 :: nat_lit 735 :: nat_lit 736 :: nat_lit 738 :: nat_lit 739 :: nat_lit 745 :: nat_lit 756 :: nat_lit 757 :: nat_lit 759 :: nat_lit 760 :: nat_lit 766 :: nat_lit 777 :: nat_lit 778 :: nat_lit 780 :: nat_lit 781 :: nat_lit 787 :: nat_lit 798 :: nat_lit 799 :: nat_lit 801 :: nat_lit 802 :: nat_lit 808 :: nat_lit 819 :: nat_lit 820 :: nat_lit 822 :: nat_lit 823 :: nat_lit 829 :: nat_lit 840 :: nat_lit 841 :: nat_lit 843 :: nat_lit 844 :: nat_lit 850 :: nat_lit 861 :: nat_lit 862 :: nat_lit 864 :: nat_lit 865 :: nat_lit 871 :: nat_lit 882 :: nat_lit 883 :: nat_lit 885 :: nat_lit 886 :: nat_lit 892 :: nat_lit 903 :: nat_lit 904 :: nat_lit 906 :: nat_lit 907 :: nat_lit 913 :: nat_lit 924 :: nat_lit 925 :: nat_lit 927 :: nat_lit 928 :: nat_lit 934 :: nat_lit 945 :: nat_lit 946 :: nat_lit 948 :: nat_lit 949 :: nat_lit 955 :: nat_lit 966 :: nat_lit 967 :: nat_lit 969 :: nat_lit 970 :: nat_lit 976 :: nat_lit 987 :: nat_lit 988 :: nat_lit 990 :: nat_lit 991 :: nat_lit 997 :: nat_lit 1008 :: nat_lit 1009 :: nat_lit 1011 :: nat_lit 1012 :: nat_lit 1018 :: nat_lit 1029 :: nat_lit 1030 :: nat_lit 1032 :: nat_lit 1033 :: nat_lit 1039 :: nat_lit 1050 :: nat_lit 1051 :: nat_lit 1053 :: nat_lit 1054 :: nat_lit 1060 :: nat_lit 1071 :: nat_lit 1072 :: nat_lit 1074 :: nat_lit 1075 :: nat_lit 1081 :: nat_lit 1092 :: nat_lit 1093 :: nat_lit 1095 :: nat_lit 1096 :: nat_lit 1104 :: nat_lit 1105 :: nat_lit 1111 :: nat_lit 1112 :: nat_lit 1118 :: nat_lit 1119 :: nat_lit 1130 :: nat_lit 1131 :: nat_lit 1135 :: nat_lit 1136 :: nat_lit 1142 :: nat_lit 1143 :: nat_lit 1149 :: nat_lit 1150 :: nat_lit 1156 :: nat_lit 1157 :: nat_lit 1163 :: nat_lit 1164 :: nat_lit 1170 :: nat_lit 1171 :: nat_lit 1175 :: nat_lit 1176 :: nat_lit 1180 :: nat_lit 1181 :: nat_lit 1185 :: nat_lit 1186 :: []
theorem K00.as_eq : ∀ P, K00.as = (K00.Kx P).map (·.1) := fun _ => rfl
set_option Elab.async false
set_option maxRecDepth 100000
set_option maxHeartbeats 0
namespace K00H
open PySem PySem.W PySem.Calls PyProof.Rows HandSHeadRun
noncomputable def ob (s : SharedT) : List (Option Obj) × List (Option Obj) := (K00.as.map (getT s), ([1138, 1145, 1152, 1159] : List Addr).map (getT s))
noncomputable abbrev H : Hook := kmHook K00.Kx K00.as K00.as_eq [1138, 1145, 1152, 1159]
theorem ob_eq (s : SharedT) : ob s = H.obs s.abs := by
  have e : ∀ l : List Addr, l.map (getT s) = l.map s.abs.heap.get? := fun l => List.map_congr_left fun a _ => getT_eq s a
  show (_, _) = (_, _)
  rw [e, e]
theorem runC (w : World) (os : OsState) : (endF (stepQ (denQ tabQ) R.prog w) 14300 R.prog w os).map ob = some (H.val w) := by kernel_rfl
theorem run (w : World) : RunEq R qv H ob 14300 [] w := fun os => map3 (runA w os) (runB w os) (runC w os)
end K00H
set_option Elab.async false
open PySem PySem.W PyProof.Rows
theorem K00.fun_both {K : Frag} {h : Heap} {mg : Str → Option Value} (X : K.In h) (G : h.Ns mainGlobals mg) {x qual : Str} {st : Stmt} {f : Addr} {oc : Value} {od an : Option Addr} {osl : Array (Option Value)} {kV doc pm cdv ct : Value}
   (a : nsIn K mainGlobals x = some (some (.ref f)))
   (l : K.lookup f = some ⟨oc, od, .func (PySem.W.fnOf x qual (L2.defArgs st) (L2.defBody st) (L2.defScope st) .none kV doc pm an cdv ct), osl⟩)
   (c : PySem.W.codeIn K cdv qual = true) (k : PySem.W.keepIn K (.ref f) = true) : ∃ f fd, mg x = some (.ref f) ∧ L2.Fun K x qual st f fd :=
  ⟨_, _, mg_of X G a, L2.fun_mk l c k⟩
open FX PySem.Calls PySem.HandSPX in
theorem K00.bad1_mk {P : Program} {K : Frag} {h : Heap} {mg : Str → Option Value} (X : K.In h) (G : h.Ns mainGlobals mg) {C : Addr} {cn fld tx : Str}
   {nm q : Str} {N : Addr} {bs bm : List Value} {sn : List Str} {sub : List Value} {ab : Bool} {col : Option Bool} {dd : Option Addr} {k0 k1 k2 k3 k5 : Option Value}
   {fI cda cc : Addr} {oc : Value} {od : Option Addr} {doc pm : Value} {an : Option Addr} {ct : Value} {osl : Array (Option Value)} {qual : Str} {p1 p2 a1 a2 a3 a4 a5 a6 q1 q2 q3 q4 : Pos} {ccl cl : Value} {cdd cld : Option Addr} {vs : Array Value} {ccs csl : Array (Option Value)} {file : Str} {tf : Tok}
   (aC : nsIn K mainGlobals cn = some (some (.ref C)))
   (xL : K.lookup C = some (excClassObj nm q C N bs bm true sn sub ab col dd k0 k1 k2 k3 k5 "ValueError.__new__")) (hbm : refsVE bm = true)
   (sa : findIn K (.ref C) "__setattr__" = some (some (.builtin "object.__setattr__"))) (ga : findIn K (.ref C) "__getattribute__" = some (some (.builtin "BaseException.__getattribute__"))) (gg : findIn K (.ref C) "__getattr__" = some none) (noN : findIn K (.ref C) fld = some none) (kC : keepIn K (.ref C) = true)
   (exC : subIn K (.ref C) (.type "BaseException") = some true) (veC : subIn K (.ref C) (.type "ValueError") = some true) (tyC : typeIn K (.ref C) = some (.type "type")) (hdC : hasDictIn K C = true) (mro : mroIn K C (.ref C) = some true)
   (sup : ks_superIn K C C "__init__" = some (some (.builtin "ValueError.__init__"))) (ms : mg "super" = none) (noq : nsIn K cStatics "thirdparty.any" = some none)
   (i1 : findIn K (.ref C) "__init__" = some (some (.ref fI))) (t1 : typeIn K (.ref fI) = some (.type "function"))
   (l1 : K.lookup fI = some ⟨oc, od, .func (ksFn "__init__" qual (xA fld p1 p2) (xB fld tx a1 a2 a3 a4 a5 a6 q1 q2 q3 q4) (xS fld) .none .none doc pm an (.ref cda) ct cc), osl⟩) (c1 : codeIn K (.ref cda) qual = true)
   (l2 : K.lookup cda = some ⟨ccl, cdd, .fields vs, ccs⟩) (l3 : vs[2]? = some (.str file tf)) (l4 : ((P.main.file : Str) == file) = true) (l5 : K.lookup cc = some ⟨cl, cld, .cell (some (.ref C)), csl⟩) (l6 : (a3.endLine == a5.line) = true)
   (nsl : (fld == ("self" : Str)) = false) (nss : (fld == ("super" : Str)) = false) (nsc : (fld == ("__class__" : Str)) = false) (nsd : (fld == ("__debug__" : Str)) = false) (top : (P.main.scope.names.lookup ("super" : Str)).isSome = false)
   (bd : ∀ (body : List Stmt) (qual : Str) (p1 p2 : Pos) (doc pm ct cdv : Value) (an : Option Addr) (cc : Addr) (x v : Value), bindArgs (ksFn "__init__" qual (xA fld p1 p2) body (xS fld) .none .none doc pm an cdv ct cc) ⟨[x, v], []⟩ = pure [(("self" : Str), x), (fld, v)])
   : FX.Txt P K mg C cn fld tx :=
  ⟨⟨_, _, _, _, _, _, _, _, _, _, _, _, _, _, _, xL, hbm⟩, mg_of X G aC, sa, ga, gg, noN, kC, exC, veC, tyC, hdC, mro, sup, ms, noq, nsl, nss, nsc, nsd, top, bd,
    ⟨_, _, _, _, _, _, _, _, _, _, _, _, _, _, _, _, _, _, _, _, _, _, _, _, _, _, _, _, _, _, _, _,  i1, t1, l1, c1, l2, l3, l4, l5, l6⟩⟩
open FX PySem.Calls PySem.HandSPX in
theorem K00.bad0_mk {P : Program} {K : Frag} {h : Heap} {mg : Str → Option Value} (X : K.In h) (G : h.Ns mainGlobals mg) {C : Addr} {cn tx : Str}
   {nm q : Str} {N : Addr} {bs bm : List Value} {sn : List Str} {sub : List Value} {ab : Bool} {col : Option Bool} {dd : Option Addr} {k0 k1 k2 k3 k5 : Option Value}
   {fI cda cc : Addr} {oc : Value} {od : Option Addr} {doc pm : Value} {an : Option Addr} {ct : Value} {osl : Array (Option Value)} {qual : Str} {p1 p2 p3 a1 a2 a3 a4 a5 a6 q1 q2 q3 q4 q5 q6 q7 q8 : Pos} {ccl cl : Value} {cdd cld : Option Addr} {vs : Array Value} {ccs csl : Array (Option Value)} {file : Str} {tf : Tok}
   (aC : nsIn K mainGlobals cn = some (some (.ref C)))
   (xL : K.lookup C = some (excClassObj nm q C N bs bm true sn sub ab col dd k0 k1 k2 k3 k5 "ValueError.__new__")) (hbm : refsVE bm = true)
   (sa : findIn K (.ref C) "__setattr__" = some (some (.builtin "object.__setattr__"))) (ga : findIn K (.ref C) "__getattribute__" = some (some (.builtin "BaseException.__getattribute__"))) (gg : findIn K (.ref C) "__getattr__" = some none) (kC : keepIn K (.ref C) = true)
   (exC : subIn K (.ref C) (.type "BaseException") = some true) (veC : subIn K (.ref C) (.type "ValueError") = some true) (tyC : typeIn K (.ref C) = some (.type "type")) (hdC : hasDictIn K C = true) (mro : mroIn K C (.ref C) = some true)
   (sup : ks_superIn K C C "__init__" = some (some (.builtin "ValueError.__init__"))) (ms : mg "super" = none) (noq : nsIn K cStatics "thirdparty.any" = some none)
   (i1 : findIn K (.ref C) "__init__" = some (some (.ref fI))) (t1 : typeIn K (.ref fI) = some (.type "function"))
   (l1 : K.lookup fI = some ⟨oc, od, .func (ksFn "__init__" qual (xA0 p1 p2 p3) (xB0 tx a1 a2 a3 a4 a5 a6 q1 q2 q3 q4 q5 q6 q7 q8) xS0 .none .none doc pm an (.ref cda) ct cc), osl⟩) (c1 : codeIn K (.ref cda) qual = true)
   (l2 : K.lookup cda = some ⟨ccl, cdd, .fields vs, ccs⟩) (l3 : vs[2]? = some (.str file tf)) (l4 : ((P.main.file : Str) == file) = true) (l5 : K.lookup cc = some ⟨cl, cld, .cell (some (.ref C)), csl⟩) (l6 : (a3.endLine == a5.line) = true)
   (top : (P.main.scope.names.lookup ("super" : Str)).isSome = false)
   : FX.Txt0 P K mg C cn tx :=
  ⟨⟨_, _, _, _, _, _, _, _, _, _, _, _, _, _, _, xL, hbm⟩, mg_of X G aC, sa, ga, gg, kC, exC, veC, tyC, hdC, mro, sup, ms, noq, top,
    ⟨_, _, _, _, _, _, _, _, _, _, _, _, _, _, _, _, _, _, _, _, _, _, _, _, _, _, _, _, _, _, _, _, _, _, _, _, _,  i1, t1, l1, c1, l2, l3, l4, l5, l6⟩⟩
open FX PySem.Calls PySem.HandSPX in
theorem K00.bad2_mk {P : Program} {K : Frag} {h : Heap} {mg : Str → Option Value} (X : K.In h) (G : h.Ns mainGlobals mg) {C : Addr} {cn tx : Str}
   {nm q : Str} {N : Addr} {bs bm : List Value} {sn : List Str} {sub : List Value} {ab : Bool} {col : Option Bool} {dd : Option Addr} {k0 k1 k2 k3 k5 : Option Value}
   {fI cda cc : Addr} {oc : Value} {od : Option Addr} {doc pm : Value} {an : Option Addr} {ct : Value} {osl : Array (Option Value)} {qual : Str} {p1 p2 p3 a1 a2 a3 a4 a5 a6 q1 q2 q3 q4 q5 q6 q7 q8 : Pos} {ccl cl : Value} {cdd cld : Option Addr} {vs : Array Value} {ccs csl : Array (Option Value)} {file : Str} {tf : Tok}
   (aC : nsIn K mainGlobals cn = some (some (.ref C)))
   (xL : K.lookup C = some (excClassObj nm q C N bs bm true sn sub ab col dd k0 k1 k2 k3 k5 "ValueError.__new__")) (hbm : refsVE bm = true)
   (sa : findIn K (.ref C) "__setattr__" = some (some (.builtin "object.__setattr__"))) (ga : findIn K (.ref C) "__getattribute__" = some (some (.builtin "BaseException.__getattribute__"))) (gg : findIn K (.ref C) "__getattr__" = some none) (no_text : findIn K (.ref C) "text" = some none) (no_line : findIn K (.ref C) "line" = some none) (kC : keepIn K (.ref C) = true)
   (exC : subIn K (.ref C) (.type "BaseException") = some true) (veC : subIn K (.ref C) (.type "ValueError") = some true) (tyC : typeIn K (.ref C) = some (.type "type")) (hdC : hasDictIn K C = true) (mro : mroIn K C (.ref C) = some true)
   (sup : ks_superIn K C C "__init__" = some (some (.builtin "ValueError.__init__"))) (ms : mg "super" = none) (noq : nsIn K cStatics "thirdparty.any" = some none)
   (i1 : findIn K (.ref C) "__init__" = some (some (.ref fI))) (t1 : typeIn K (.ref fI) = some (.type "function"))
   (l1 : K.lookup fI = some ⟨oc, od, .func (ksFn "__init__" qual (xA2 p1 p2 p3) (xB2 tx a1 a2 a3 a4 a5 a6 q1 q2 q3 q4 q5 q6 q7 q8) xS2 .none .none doc pm an (.ref cda) ct cc), osl⟩) (c1 : codeIn K (.ref cda) qual = true)
   (l2 : K.lookup cda = some ⟨ccl, cdd, .fields vs, ccs⟩) (l3 : vs[2]? = some (.str file tf)) (l4 : ((P.main.file : Str) == file) = true) (l5 : K.lookup cc = some ⟨cl, cld, .cell (some (.ref C)), csl⟩) (l6 : (a3.endLine == a5.line) = true)
   (top : (P.main.scope.names.lookup ("super" : Str)).isSome = false)
   : FX.Txt2 P K mg C cn tx :=
  ⟨⟨_, _, _, _, _, _, _, _, _, _, _, _, _, _, _, xL, hbm⟩, mg_of X G aC, sa, ga, gg, no_text, no_line, kC, exC, veC, tyC, hdC, mro, sup, ms, noq, top,
    ⟨_, _, _, _, _, _, _, _, _, _, _, _, _, _, _, _, _, _, _, _, _, _, _, _, _, _, _, _, _, _, _, _, _, _, _, _, _,  i1, t1, l1, c1, l2, l3, l4, l5, l6⟩⟩
theorem K00.lam_mk {K : Frag} {h : Heap} {mg : Str → Option Value} (X : K.In h) (G : h.Ns mainGlobals mg) {n : Str} {st : Stmt} {f c P : Addr} {oc : Value} {od an : Option Addr} {osl : Array (Option Value)} {kV doc pm ct : Value}
   (a : nsIn K mainGlobals n = some (some (.ref f)))
   (l : K.lookup f = some ⟨oc, od, .func (PySem.W.fnOf n n (L2.defArgs st) (L2.defBody st) (L2.defScope st) .none kV doc pm an (.ref c) ct), osl⟩)
   (cd : PySem.W.codeIn K (.ref c) n = true) (k : PySem.W.keepIn K (.ref f) = true) (hd : codeHdIn K c P = true) : ∃ f fd c, mg n = some (.ref f) ∧ L2.Fun K n n st f fd ∧ L2.codeAt K f = some (.ref c) ∧ CodeHd h c P :=
  ⟨_, _, _, mg_of X G a, L2.fun_mk l cd k, by unfold L2.codeAt; rw [l], codeHd_of_K X hd⟩
theorem K00.bind1 {K : Frag} {x qual : Str} {st : Stmt} {f : Addr} {fd : FuncData} {p : Str} (F : L2.Fun K x qual st f fd)
   (h : ∀ (kV doc pm : Value) (an : Option Addr) (cdv ct : Value) (u : Value), bindArgs (PySem.W.fnOf x qual (L2.defArgs st) (L2.defBody st) (L2.defScope st) .none kV doc pm an cdv ct) ⟨[u], []⟩ = pure [(p, u)]) : ∀ (s : Shared) (u : Value), BindsTo s fd ⟨[u], []⟩ [(p, u)] := by
  obtain ⟨oc, od, kV, doc, pm, an, cdv, ct, osl, rfl, lk, hcd⟩ := F.ex
  exact fun s u => BindsTo.of_eq (h kV doc pm an cdv ct u)
open T L2 in
theorem K00.start {K : Frag} {H : Hp} {a : Addr} {ns : List Int} {T4 : List (Addr × Str)} (nd : (T4.map (·.1)).Nodup) (ht : ∀ p ∈ T4, H p.1 = some (.tbl #[])) (hs : SqL K H a (ns.map V.int)) : Entry K (fun b => if b ∈ T4.map (·.1) then none else H b) [tv (Sq.mk ns)] (T4.map fun p => (p.1, .tab p.2)) [.ref a] H := by
  have hF : ∀ b, b ∉ T4.map (·.1) → (if b ∈ T4.map (·.1) then none else H b) = H b := fun b hb => if_neg hb
  have hno : ∀ b o, H b = some o → (∀ ps, o ≠ .tbl ps) → b ∉ T4.map (·.1) := fun b o h n z => by
    obtain ⟨p, hp, rfl⟩ := List.mem_map.mp z
    rw [ht p hp] at h
    cases h
    exact n _ rfl
  have keys : (T4.map fun p => (p.1, Ct.tab p.2)).map (·.1) = T4.map (·.1) := by rw [List.map_map]; rfl
  refine ⟨.cons ⟨a, rfl, ?_⟩ .nil, ⟨fun b o h => ?_, fun _ _ h => h, fun b o h1 h2 => ?_, fun b o h _ => h, fun p hp => ?_, by rw [keys]; exact nd, fun b hb => ?_, fun b hb => ?_⟩⟩
  · rcases hs with (h | ⟨o, h⟩) | h
    · exact .inl (.inl ((hF a (hno _ _ h (fun ps z => by cases z))).trans h))
    · exact .inl (.inr ⟨o, (hF a (hno _ _ h (fun ps z => by cases z))).trans h⟩)
    · exact .inr h
  · by_cases e : b ∈ T4.map (·.1)
    · have h' := h
      simp only [if_pos e] at h'
      cases h'
    · have h' := h
      simp only [if_neg e] at h'
      exact h'
  · have h3 := h2.symm.trans h1
    cases h3
  · obtain ⟨q, hq, rfl⟩ := List.mem_map.mp hp
    exact ⟨if_pos (List.mem_map.mpr ⟨q, hq, rfl⟩), ⟨_, ht q hq, #[], rfl, trivial, fun pos cv h => (by cases h)⟩, .inl (List.mem_map.mpr ⟨_, hp, rfl⟩)⟩
  · have hb' : b ∈ T4.map (·.1) := by rw [← keys]; exact hb
    obtain ⟨q, hq, rfl⟩ := List.mem_map.mp hb'
    rw [ht q hq]
    exact fun z => by cases z
  · have hb' : b ∈ T4.map (·.1) := by rw [← keys]; exact hb
    obtain ⟨q, hq, rfl⟩ := List.mem_map.mp hb'
    show H q.1 ≠ none
    rw [ht q hq]
    exact fun z => by cases z
def K00.Z0 : K00.Adr := ⟨46, 67, 88, 109, 130, 151, 172, 193, 214, 235, 256, 277, 298, 319, 340, 361, 382, 403, 424, 445, 466, 487, 508, 529, 550, 571, 592, 613, 634, 655, 676, 697, 718, 739, 760, 781, 802, 823, 844, 865, 928, 949, 970, 1012, 1033, 1054, 1075, 1096, 991, 886, 907, 24⟩
theorem K00.Z0_nd : K00.Z0.all.Nodup := by decide +kernel
/-- what is asked of the written part about all kinds, by one look -/
def K00.kitB (K : Frag) : Bool := K00.Z0.all.all fun C => (K00.Z0.all.all fun E => kitOne K (.ref C) (.ref E) == some (decide (C = E))) && (kitOne K (.ref C) (.ref K00.Z0.C_FiveError) == some true && (kitOne K (.ref C) (.type "ValueError") == some true &&
  (findIn K (.ref C) "__class__" == some (some (.builtin "object.__class__")) && mroIn K C (.type "object") == some true)))
def K00.fldB (K : Frag) : Bool := K00.Z0.flds.all fun p => findIn K (.ref p.1) p.2 == some none
def K00.excB (K : Frag) : Bool := K00.Z0.all.all fun C => findIn K (.ref C) "__getattribute__" == some (some (.builtin "BaseException.__getattribute__")) && (findIn K (.ref C) "__getattr__" == some none && (subIn K (.ref C) (.type "BaseException") == some true && hasDictIn K C))
open K00 in
theorem K00.fin {l : OpenLaw} {w : World} {K : Frag} {mg : Str → Option Value} {fa : Addr} {h : Heap} (hmg : mg "law" = some (.ref fa))
  (hT : ∀ P ∈ [1138, 1145, 1152, 1159], h.get? P = some (tabObj #[])) (nT : ∀ P ∈ [1138, 1145, 1152, 1159], K.lookup P = none) (kb : K00.kitB K = true) (fb : K00.fldB K = true) (eb : K00.excB K = true)
  (os : specialIn K (.builtin "object.__class__") "__get__" = some (some (.builtin "getset_descriptor.__get__"))) (ot : takesIn K (.builtin "object.__class__") = some true)
  (n_ValueError : mg "ValueError" = none)
  (n_all : mg "all" = none)
  (n_dict : mg "dict" = none)
  (n_enumerate : mg "enumerate" = none)
  (n_int : mg "int" = none)
  (n_isinstance : mg "isinstance" = none)
  (n_len : mg "len" = none)
  (n_range : mg "range" = none)
  (n_tuple : mg "tuple" = none)
  (n_zip : mg "zip" = none)
  (n_list : mg "list" = none)
  (n_bool : mg "bool" = none)
  (n_str : mg "str" = none)
  (E_BadNames : FX.Txt l.prog K mg 46 "BadNames" "names" "no names")
  (E_BadEights : FX.Txt l.prog K mg 67 "BadEights" "eights" "no eights")
  (E_NoName : FX.Txt l.prog K mg 88 "NoName" "name" "no name of the system")
  (E_BadLot : FX.Txt l.prog K mg 109 "BadLot" "lot" "no lot")
  (E_BadFive : FX.Txt l.prog K mg 130 "BadFive" "five" "no five unlike names of the system")
  (E_BadImage : FX.Txt l.prog K mg 151 "BadImage" "image" "no image")
  (E_BadNumber : FX.Txt l.prog K mg 172 "BadNumber" "number" "no number")
  (E_BadEight : FX.Txt l.prog K mg 193 "BadEight" "eight" "no eight of the system")
  (E_BadRows : FX.Txt l.prog K mg 214 "BadRows" "rows" "no rows of the system")
  (E_BadSeven : FX.Txt l.prog K mg 235 "BadSeven" "seven" "no proper seven")
  (E_BadMap : FX.Txt l.prog K mg 256 "BadMap" "own_map" "no map")
  (E_BadSigns : FX.Txt l.prog K mg 277 "BadSigns" "signs" "no signs")
  (E_BadNumbers : FX.Txt l.prog K mg 298 "BadNumbers" "numbers" "no list of such numbers")
  (E_BadQuestion : FX.Txt l.prog K mg 319 "BadQuestion" "question" "no question")
  (E_BadHalf : FX.Txt l.prog K mg 340 "BadHalf" "half" "no half")
  (E_BadFour : FX.Txt l.prog K mg 361 "BadFour" "four" "no lot of four names")
  (E_BadSextet : FX.Txt l.prog K mg 382 "BadSextet" "sextet" "no sextet")
  (E_BadKind : FX.Txt l.prog K mg 403 "BadKind" "kind" "no kind of two sextets")
  (E_NotApart : FX.Txt l.prog K mg 424 "NotApart" "name" "a name is in both eights")
  (E_BadTrio : FX.Txt l.prog K mg 445 "BadTrio" "trio" "no trio")
  (E_BadTwelve : FX.Txt l.prog K mg 466 "BadTwelve" "twelve" "no twelve")
  (E_BadSix : FX.Txt l.prog K mg 487 "BadSix" "six" "no such six")
  (E_BadLine : FX.Txt l.prog K mg 508 "BadLine" "line" "no other line of the plane")
  (E_BadSixes : FX.Txt l.prog K mg 529 "BadSixes" "sixes" "no sixes")
  (E_BadRow : FX.Txt l.prog K mg 550 "BadRow" "row" "no row of five unlike names")
  (E_BadMarking : FX.Txt l.prog K mg 571 "BadMarking" "marking" "no marking")
  (E_BadMarks : FX.Txt l.prog K mg 592 "BadMarks" "marks" "no marks")
  (E_BadStand : FX.Txt l.prog K mg 613 "BadStand" "stand" "no stand of the game")
  (E_BadLabels : FX.Txt l.prog K mg 634 "BadLabels" "labels" "no labelling")
  (E_BadHexa : FX.Txt l.prog K mg 655 "BadHexa" "six" "no hexaword")
  (E_BadNode : FX.Txt l.prog K mg 676 "BadNode" "node" "no other node")
  (E_BadSignRows : FX.Txt l.prog K mg 697 "BadSignRows" "rows" "no sign rows")
  (E_BadPart : FX.Txt l.prog K mg 718 "BadPart" "part" "no part of the lot")
  (E_BadRing : FX.Txt l.prog K mg 739 "BadRing" "ring" "no ring")
  (E_BadPlaces : FX.Txt l.prog K mg 760 "BadPlaces" "places" "no places")
  (E_BadTrust : FX.Txt l.prog K mg 781 "BadTrust" "trust" "no trust")
  (E_BadWords : FX.Txt l.prog K mg 802 "BadWords" "words" "no list of words")
  (E_BadShape : FX.Txt l.prog K mg 823 "BadShape" "shape" "no shape")
  (E_Within : FX.Txt l.prog K mg 844 "Within" "name" "in the lot")
  (E_Without : FX.Txt l.prog K mg 865 "Without" "name" "not in the lot")
  (E_BadStep : FX.Txt l.prog K mg 928 "BadStep" "step" "no step")
  (E_BadSteps : FX.Txt l.prog K mg 949 "BadSteps" "steps" "no steps")
  (E_Refused : FX.Txt l.prog K mg 970 "Refused" "fault" "refused")
  (E_BadJournal : FX.Txt l.prog K mg 1012 "BadJournal" "journal" "no right journal")
  (E_BadNumbering : FX.Txt l.prog K mg 1033 "BadNumbering" "numbering" "no numbering")
  (E_BadVector : FX.Txt l.prog K mg 1054 "BadVector" "vector" "no vector")
  (E_NoVector : FX.Txt l.prog K mg 1075 "NoVector" "index" "no vector of this index")
  (E_TooGreat : FX.Txt l.prog K mg 1096 "TooGreat" "name" "too great a number")
  (E_BadText : FX.Txt2 l.prog K mg 991 "BadText" "no such text")
  (E_NothingDone : FX.Txt0 l.prog K mg 886 "NothingDone" "nothing done")
  (E_NothingUndone : FX.Txt0 l.prog K mg 907 "NothingUndone" "nothing undone")
  (gF : mg "FiveError" = some (.ref 24))
  (h__law_spring : ∃ f fd, mg "_law_spring" = some (.ref f) ∧ L2.Fun K "_law_spring" "_law_spring" K00.s__law_spring f fd)
  (h__law_draw : ∃ f fd, mg "_law_draw" = some (.ref f) ∧ L2.Fun K "_law_draw" "_law_draw" K00.s__law_draw f fd)
  (h__law_pick : ∃ f fd, mg "_law_pick" = some (.ref f) ∧ L2.Fun K "_law_pick" "_law_pick" K00.s__law_pick f fd)
  (h__law_e_kinds : ∃ f fd, mg "_law_e_kinds" = some (.ref f) ∧ L2.Fun K "_law_e_kinds" "_law_e_kinds" K00.s__law_e_kinds f fd)
  (h__law_e_drawn : ∃ f fd, mg "_law_e_drawn" = some (.ref f) ∧ L2.Fun K "_law_e_drawn" "_law_e_drawn" K00.s__law_e_drawn f fd)
  (h__law_e_right : ∃ f fd, mg "_law_e_right" = some (.ref f) ∧ L2.Fun K "_law_e_right" "_law_e_right" K00.s__law_e_right f fd)
  (h_law : ∃ f fd, mg "law" = some (.ref f) ∧ L2.Fun K "law" "law" K00.s_law f fd)
  (h__law_same : ∃ f fd, mg "_law_same" = some (.ref f) ∧ L2.Fun K "_law_same" "_law_same" K00.s__law_same f fd)
  (h__law_very : ∃ f fd, mg "_law_very" = some (.ref f) ∧ L2.Fun K "_law_very" "_law_very" K00.s__law_very f fd)
  (h__law_e_first : ∃ f fd c, mg "_law_e_first" = some (.ref f) ∧ L2.Fun K "_law_e_first" "_law_e_first" K00.s__law_e_first f fd ∧ L2.codeAt K f = some (.ref c) ∧ CodeHd h c 1138)
  (h__law_e_second : ∃ f fd c, mg "_law_e_second" = some (.ref f) ∧ L2.Fun K "_law_e_second" "_law_e_second" K00.s__law_e_second f fd ∧ L2.codeAt K f = some (.ref c) ∧ CodeHd h c 1145)
  (h__law_e_third : ∃ f fd c, mg "_law_e_third" = some (.ref f) ∧ L2.Fun K "_law_e_third" "_law_e_third" K00.s__law_e_third f fd ∧ L2.codeAt K f = some (.ref c) ∧ CodeHd h c 1152)
  (h__law_e_fourth : ∃ f fd c, mg "_law_e_fourth" = some (.ref f) ∧ L2.Fun K "_law_e_fourth" "_law_e_fourth" K00.s__law_e_fourth f fd ∧ L2.codeAt K f = some (.ref c) ∧ CodeHd h c 1159) : LamX.LawAtS l w K L2.CX0 9 63 "script" mg fa h := by
  obtain ⟨f__law_spring, fd__law_spring, g__law_spring, F__law_spring⟩ := h__law_spring
  have b__law_spring := F__law_spring.binds (ps := ["script", "turn"]) fun _ _ _ _ _ _ us hl => match us, hl with | [_, _], _ => rfl
  obtain ⟨f__law_draw, fd__law_draw, g__law_draw, F__law_draw⟩ := h__law_draw
  have b__law_draw := F__law_draw.binds (ps := ["spring", "many"]) fun _ _ _ _ _ _ us hl => match us, hl with | [_, _], _ => rfl
  obtain ⟨f__law_pick, fd__law_pick, g__law_pick, F__law_pick⟩ := h__law_pick
  have b__law_pick := F__law_pick.binds (ps := ["spring", "some"]) fun _ _ _ _ _ _ us hl => match us, hl with | [_, _], _ => rfl
  obtain ⟨f__law_e_kinds, fd__law_e_kinds, g__law_e_kinds, F__law_e_kinds⟩ := h__law_e_kinds
  have b__law_e_kinds := F__law_e_kinds.binds (ps := ["e"]) fun _ _ _ _ _ _ us hl => match us, hl with | [_], _ => rfl
  obtain ⟨f__law_e_drawn, fd__law_e_drawn, g__law_e_drawn, F__law_e_drawn⟩ := h__law_e_drawn
  have b__law_e_drawn := F__law_e_drawn.binds (ps := ["spring"]) fun _ _ _ _ _ _ us hl => match us, hl with | [_], _ => rfl
  obtain ⟨f__law_e_right, fd__law_e_right, g__law_e_right, F__law_e_right⟩ := h__law_e_right
  have b__law_e_right := F__law_e_right.binds (ps := ["row", "at"]) fun _ _ _ _ _ _ us hl => match us, hl with | [_, _], _ => rfl
  obtain ⟨f_law, fd_law, g_law, F_law⟩ := h_law
  have b_law := F_law.binds (ps := ["script"]) fun _ _ _ _ _ _ us hl => match us, hl with | [_], _ => rfl
  obtain ⟨f__law_same, fd__law_same, g__law_same, F__law_same⟩ := h__law_same
  have b__law_same := F__law_same.binds (ps := ["found", "due"]) fun _ _ _ _ _ _ us hl => match us, hl with | [_, _], _ => rfl
  obtain ⟨f__law_very, fd__law_very, g__law_very, F__law_very⟩ := h__law_very
  have b__law_very := F__law_very.binds (ps := ["kept", "thing"]) fun _ _ _ _ _ _ us hl => match us, hl with | [_, _], _ => rfl
  obtain ⟨f__law_e_first, fd__law_e_first, c__law_e_first, g__law_e_first, F__law_e_first, cd__law_e_first, hd__law_e_first⟩ := h__law_e_first
  have b__law_e_first := F__law_e_first.binds (ps := ["x"]) fun _ _ _ _ _ _ us hl => match us, hl with | [_], _ => rfl
  obtain ⟨f__law_e_second, fd__law_e_second, c__law_e_second, g__law_e_second, F__law_e_second, cd__law_e_second, hd__law_e_second⟩ := h__law_e_second
  have b__law_e_second := F__law_e_second.binds (ps := ["x"]) fun _ _ _ _ _ _ us hl => match us, hl with | [_], _ => rfl
  obtain ⟨f__law_e_third, fd__law_e_third, c__law_e_third, g__law_e_third, F__law_e_third, cd__law_e_third, hd__law_e_third⟩ := h__law_e_third
  have b__law_e_third := F__law_e_third.binds (ps := ["x"]) fun _ _ _ _ _ _ us hl => match us, hl with | [_], _ => rfl
  obtain ⟨f__law_e_fourth, fd__law_e_fourth, c__law_e_fourth, g__law_e_fourth, F__law_e_fourth, cd__law_e_fourth, hd__law_e_fourth⟩ := h__law_e_fourth
  have b__law_e_fourth := F__law_e_fourth.binds (ps := ["x", "y"]) fun _ _ _ _ _ _ us hl => match us, hl with | [_, _], _ => rfl
  have exc : ∀ C ∈ K00.Z0.all, L2.XfC K C := fun C hC => by
    have := List.all_eq_true.mp eb C hC
    simp only [Bool.and_eq_true, beq_iff_eq] at this
    exact ⟨this.1, this.2.1, this.2.2.1, this.2.2.2⟩
  have kit : ∀ C ∈ K00.Z0.all, (∀ E ∈ K00.Z0.all, kitOne K (.ref C) (.ref E) = some (decide (C = E))) ∧ kitOne K (.ref C) (.ref K00.Z0.C_FiveError) = some true ∧ kitOne K (.ref C) (.type "ValueError") = some true ∧ findIn K (.ref C) "__class__" = some (some (.builtin "object.__class__")) ∧ mroIn K C (.type "object") = some true := fun C hC => by
    have := List.all_eq_true.mp kb C hC
    simp only [Bool.and_eq_true, beq_iff_eq] at this
    exact ⟨fun E hE => beq_iff_eq.mp (List.all_eq_true.mp this.1 E hE), this.2.1, this.2.2.1, this.2.2.2.1, this.2.2.2.2⟩
  have fl : ∀ p ∈ K00.Z0.flds, L2.XfC K p.1 ∧ findIn K (.ref p.1) p.2 = some none := fun p hp => by
    refine ⟨exc _ ?_, beq_iff_eq.mp (List.all_eq_true.mp fb p hp)⟩
    have : ∀ p ∈ K00.Z0.flds, p.1 ∈ K00.Z0.all := by decide +kernel
    exact this p hp
  have hA : ∀ base : Heap, LamX.TabB base mg c__law_e_first 1138 → LamX.TabB base mg c__law_e_second 1145 → LamX.TabB base mg c__law_e_third 1152 → LamX.TabB base mg c__law_e_fourth 1159 → ∃ A : K00.Facts l.prog K mg base, A.f_law = f_law ∧ A.fd_law = fd_law ∧ A.ZZ = K00.Z0 ∧ A.P__law_e_first = 1138 ∧ A.P__law_e_second = 1145 ∧ A.P__law_e_third = 1152 ∧ A.P__law_e_fourth = 1159 := fun base TB__law_e_first TB__law_e_second TB__law_e_third TB__law_e_fourth => ⟨{
    ZZ := K00.Z0,
    n_ValueError := n_ValueError,
    n_all := n_all,
    n_dict := n_dict,
    n_enumerate := n_enumerate,
    n_int := n_int,
    n_isinstance := n_isinstance,
    n_len := n_len,
    n_range := n_range,
    n_tuple := n_tuple,
    n_zip := n_zip,
    E_BadNames := E_BadNames,
    E_BadEights := E_BadEights,
    E_NoName := E_NoName,
    E_BadLot := E_BadLot,
    E_BadFive := E_BadFive,
    E_BadImage := E_BadImage,
    E_BadNumber := E_BadNumber,
    E_BadEight := E_BadEight,
    E_BadRows := E_BadRows,
    E_BadSeven := E_BadSeven,
    E_BadMap := E_BadMap,
    E_BadSigns := E_BadSigns,
    E_BadNumbers := E_BadNumbers,
    E_BadQuestion := E_BadQuestion,
    E_BadHalf := E_BadHalf,
    E_BadFour := E_BadFour,
    E_BadSextet := E_BadSextet,
    E_BadKind := E_BadKind,
    E_NotApart := E_NotApart,
    E_BadTrio := E_BadTrio,
    E_BadTwelve := E_BadTwelve,
    E_BadSix := E_BadSix,
    E_BadLine := E_BadLine,
    E_BadSixes := E_BadSixes,
    E_BadRow := E_BadRow,
    E_BadMarking := E_BadMarking,
    E_BadMarks := E_BadMarks,
    E_BadStand := E_BadStand,
    E_BadLabels := E_BadLabels,
    E_BadHexa := E_BadHexa,
    E_BadNode := E_BadNode,
    E_BadSignRows := E_BadSignRows,
    E_BadPart := E_BadPart,
    E_BadRing := E_BadRing,
    E_BadPlaces := E_BadPlaces,
    E_BadTrust := E_BadTrust,
    E_BadWords := E_BadWords,
    E_BadShape := E_BadShape,
    E_Within := E_Within,
    E_Without := E_Without,
    E_BadStep := E_BadStep,
    E_BadSteps := E_BadSteps,
    E_Refused := E_Refused,
    E_BadJournal := E_BadJournal,
    E_BadNumbering := E_BadNumbering,
    E_BadVector := E_BadVector,
    E_NoVector := E_NoVector,
    E_TooGreat := E_TooGreat,
    E_BadText := E_BadText,
    E_NothingDone := E_NothingDone,
    E_NothingUndone := E_NothingUndone,
    g_FiveError := gF,
    kit := fun C hC => ⟨⟨(exc C hC).ga, (exc C hC).gg, (exc C hC).exC, (exc C hC).hdC, (kit C hC).2.2.2.1, os, ot, (kit C hC).2.2.2.2⟩, (kit C hC).1⟩,
    kitF := fun C hC => (kit C hC).2.1,
    kitV := fun C hC => (kit C hC).2.2.1,
    flds := fl,
    c__law_e_first := c__law_e_first,
    P__law_e_first := 1138,
    TB__law_e_first := TB__law_e_first,
    cd__law_e_first := cd__law_e_first,
    c__law_e_second := c__law_e_second,
    P__law_e_second := 1145,
    TB__law_e_second := TB__law_e_second,
    cd__law_e_second := cd__law_e_second,
    c__law_e_third := c__law_e_third,
    P__law_e_third := 1152,
    TB__law_e_third := TB__law_e_third,
    cd__law_e_third := cd__law_e_third,
    c__law_e_fourth := c__law_e_fourth,
    P__law_e_fourth := 1159,
    TB__law_e_fourth := TB__law_e_fourth,
    cd__law_e_fourth := cd__law_e_fourth,
    f__law_spring := f__law_spring,
    fd__law_spring := fd__law_spring,
    F__law_spring := F__law_spring,
    b__law_spring := b__law_spring,
    g__law_spring := g__law_spring,
    f__law_draw := f__law_draw,
    fd__law_draw := fd__law_draw,
    F__law_draw := F__law_draw,
    b__law_draw := b__law_draw,
    g__law_draw := g__law_draw,
    f__law_pick := f__law_pick,
    fd__law_pick := fd__law_pick,
    F__law_pick := F__law_pick,
    b__law_pick := b__law_pick,
    g__law_pick := g__law_pick,
    f__law_e_kinds := f__law_e_kinds,
    fd__law_e_kinds := fd__law_e_kinds,
    F__law_e_kinds := F__law_e_kinds,
    b__law_e_kinds := b__law_e_kinds,
    g__law_e_kinds := g__law_e_kinds,
    f__law_e_drawn := f__law_e_drawn,
    fd__law_e_drawn := fd__law_e_drawn,
    F__law_e_drawn := F__law_e_drawn,
    b__law_e_drawn := b__law_e_drawn,
    g__law_e_drawn := g__law_e_drawn,
    f__law_e_right := f__law_e_right,
    fd__law_e_right := fd__law_e_right,
    F__law_e_right := F__law_e_right,
    b__law_e_right := b__law_e_right,
    g__law_e_right := g__law_e_right,
    f_law := f_law,
    fd_law := fd_law,
    F_law := F_law,
    b_law := b_law,
    g_law := g_law,
    f__law_same := f__law_same,
    fd__law_same := fd__law_same,
    F__law_same := F__law_same,
    b__law_same := b__law_same,
    g__law_same := g__law_same,
    f__law_very := f__law_very,
    fd__law_very := fd__law_very,
    F__law_very := F__law_very,
    b__law_very := b__law_very,
    g__law_very := g__law_very,
    f__law_e_first := f__law_e_first,
    fd__law_e_first := fd__law_e_first,
    F__law_e_first := F__law_e_first,
    b__law_e_first := b__law_e_first,
    g__law_e_first := g__law_e_first,
    f__law_e_second := f__law_e_second,
    fd__law_e_second := fd__law_e_second,
    F__law_e_second := F__law_e_second,
    b__law_e_second := b__law_e_second,
    g__law_e_second := g__law_e_second,
    f__law_e_third := f__law_e_third,
    fd__law_e_third := fd__law_e_third,
    F__law_e_third := F__law_e_third,
    b__law_e_third := b__law_e_third,
    g__law_e_third := g__law_e_third,
    f__law_e_fourth := f__law_e_fourth,
    fd__law_e_fourth := fd__law_e_fourth,
    F__law_e_fourth := F__law_e_fourth,
    b__law_e_fourth := b__law_e_fourth,
    g__law_e_fourth := g__law_e_fourth,
    zsame := ⟨n_isinstance, n_dict, n_list, n_tuple, n_bool, n_int, n_str, n_len, n_all, n_zip⟩ }, rfl, rfl, rfl, rfl, rfl, rfl, rfl⟩
  have e : f_law = fa := by
    rw [g_law] at hmg
    exact (by injection (Option.some.inj hmg))
  subst e
  have four : ∀ {Q : Addr × Addr → Prop}, Q (c__law_e_first, 1138) → Q (c__law_e_second, 1145) → Q (c__law_e_third, 1152) → Q (c__law_e_fourth, 1159) → ∀ p ∈ ([(c__law_e_first, 1138), (c__law_e_second, 1145), (c__law_e_third, 1152), (c__law_e_fourth, 1159)] : List (Addr × Addr)), Q p := fun q0 q1 q2 q3 p hp => by
    simp only [List.mem_cons, List.not_mem_nil, or_false] at hp
    rcases hp with rfl | rfl | rfl | rfl <;> assumption
  refine ⟨fd_law, [(c__law_e_first, 1138), (c__law_e_second, 1145), (c__law_e_third, 1152), (c__law_e_fourth, 1159)], T.SpV (K00.S_law (ZZ := K00.Z0) 1138 1145 1152 1159) K, four (hT 1138 (by decide)) (hT 1145 (by decide)) (hT 1152 (by decide)) (hT 1159 (by decide)), four (nT 1138 (by decide)) (nT 1145 (by decide)) (nT 1152 (by decide)) (nT 1159 (by decide)), four hd__law_e_first hd__law_e_second hd__law_e_third hd__law_e_fourth, K00.bind1 F_law fun _ _ _ _ _ _ _ => rfl, ?_, ?_⟩
  · intro H a ns hl hb ht hs
    have h4 : ∀ p ∈ ([(1138, "_law_e_first.<locals>.<lambda>"), (1145, "_law_e_second.<locals>.<lambda>"), (1152, "_law_e_third.<locals>.<lambda>"), (1159, "_law_e_fourth.<locals>.<lambda>")] : List (Addr × Str)), H p.1 = some (.tbl #[]) := fun p hp => by
      simp only [List.mem_cons, List.not_mem_nil, or_false] at hp
      rcases hp with rfl | rfl | rfl | rfl
      · exact ht (c__law_e_first, 1138) (by simp)
      · exact ht (c__law_e_second, 1145) (by simp)
      · exact ht (c__law_e_third, 1152) (by simp)
      · exact ht (c__law_e_fourth, 1159) (by simp)
    exact ⟨_, _, _, _, _, ⟨⟨ns⟩, true, rfl, rfl, K00.m_law_true K00.Z0_nd _, rfl, rfl⟩, rfl, K00.start (T4 := [(1138, "_law_e_first.<locals>.<lambda>"), (1145, "_law_e_second.<locals>.<lambda>"), (1152, "_law_e_third.<locals>.<lambda>"), (1159, "_law_e_fourth.<locals>.<lambda>")]) (by decide) h4 hs, fun v H' h => by
      obtain ⟨F', _, hv⟩ := h
      exact hv⟩
  · intro base KB GB TB
    obtain ⟨A, e1, e2, e3, p0, p1, p2, p3⟩ := hA base (TB (c__law_e_first, 1138) (by simp)) (TB (c__law_e_second, 1145) (by simp)) (TB (c__law_e_third, 1152) (by simp)) (TB (c__law_e_fourth, 1159) (by simp))
    have := K00.w_law (w := w) A
    rw [e1, e2, e3, p0, p1, p2, p3] at this
    exact this
set_option maxRecDepth 100000 in
set_option maxHeartbeats 0 in
theorem PySem.Challenge.cw_eachfive_k00_errors_made_holds : PySem.Challenge.rw_eachfive_k00_errors_made.Holds := by
  w_on; o_law
  refine HandSHeadRun.head_any (r := OpenLaw.row PySem.Challenge.rw_eachfive_k00_errors_made) (q := K00H.qv) (H := PySem.W.kmHook K00.Kx K00.as K00.as_eq [1138, 1145, 1152, 1159]) (ob := K00H.ob) (M := 14300) (loose := []) (kwd := []) K00H.ob_eq (by kernel_rfl) (fun s => by kernel_rfl) K00H.run (by rfl) (by rfl) (by rfl) (by rfl) (by first | assumption | decide +kernel) (by decide +kernel) ⟨rfl, rfl, rfl, rfl, rfl, by decide +kernel⟩ ?hw ?hc
  (case hw => w_witness2)
  k_fill
  refine LamX.walk_ofTs (l := PySem.Challenge.rw_eachfive_k00_errors_made) (n := 63) (k := 9) (x := "script") (CX := fun _ => L2.CX0) (by first | rfl | decide +kernel) (by decide) rfl ⟨rfl, by decide, by decide⟩ (fun w h Y => PySem.W.km_in_of Y) ?F (fun _ _ _ _ _ z => z)
  case F =>
    intro w mg fa h Y KX G hmg
    have ms : mg "super" = none := mg_none_of KX G (by k_is)
    refine K00.fin hmg ?_ ?_ ?_ ?_ ?_ ?_ ?_ ?_ ?_ ?_ ?_ ?_ ?_ ?_ ?_ ?_ ?_ ?_ ?_ ?_ ?_ ?_ ?_ ?_ ?_ ?_ ?_ ?_ ?_ ?_ ?_ ?_ ?_ ?_ ?_ ?_ ?_ ?_ ?_ ?_ ?_ ?_ ?_ ?_ ?_ ?_ ?_ ?_ ?_ ?_ ?_ ?_ ?_ ?_ ?_ ?_ ?_ ?_ ?_ ?_ ?_ ?_ ?_ ?_ ?_ ?_ ?_ ?_ ?_ ?_ ?_ ?_ ?_ ?_ ?_ ?_ ?_ ?_ ?_ ?_ ?_ ?_ ?_ ?_ ?_
    · exact fun P hP => PySem.W.km_tabs_of Y P (by simp only [List.mem_cons, List.not_mem_nil, or_false] at hP; rcases hP with rfl | rfl | rfl | rfl <;> first | decide | simp)
    · intro P hP; simp at hP; rcases hP with rfl | rfl | rfl | rfl <;> first | rfl | k_is | kernel_rfl
    · kernel_rfl
    · kernel_rfl
    · kernel_rfl
    · first | k_is | kernel_rfl | rfl | decide +kernel
    · first | k_is | kernel_rfl | rfl | decide +kernel
    · exact mg_none_of KX G (by k_is)
    · exact mg_none_of KX G (by k_is)
    · exact mg_none_of KX G (by k_is)
    · exact mg_none_of KX G (by k_is)
    · exact mg_none_of KX G (by k_is)
    · exact mg_none_of KX G (by k_is)
    · exact mg_none_of KX G (by k_is)
    · exact mg_none_of KX G (by k_is)
    · exact mg_none_of KX G (by k_is)
    · exact mg_none_of KX G (by k_is)
    · exact mg_none_of KX G (by k_is)
    · exact mg_none_of KX G (by k_is)
    · exact mg_none_of KX G (by k_is)
    · exact K00.bad1_mk (P := PySem.Challenge.rw_eachfive_k00_errors_made.prog) (C := 46) (cn := "BadNames") (fld := "names") (tx := "no names") KX G (by k_is) (by k_is) (by first | k_is | kernel_rfl | rfl | decide +kernel) (by first | k_is | kernel_rfl | rfl | decide +kernel) (by first | k_is | kernel_rfl | rfl | decide +kernel) (by first | k_is | kernel_rfl | rfl | decide +kernel) (by first | k_is | kernel_rfl | rfl | decide +kernel) (by first | k_is | kernel_rfl | rfl | decide +kernel) (by first | k_is | kernel_rfl | rfl | decide +kernel) (by first | k_is | kernel_rfl | rfl | decide +kernel) (by first | k_is | kernel_rfl | rfl | decide +kernel) (by first | k_is | kernel_rfl | rfl | decide +kernel) (by first | k_is | kernel_rfl | rfl | decide +kernel) (by first | k_is | kernel_rfl | rfl | decide +kernel) ms (by first | k_is | kernel_rfl | rfl | decide +kernel) (by k_is) (by first | k_is | kernel_rfl | rfl | decide +kernel) (by k_is) (by first | k_is | kernel_rfl | rfl | decide +kernel) (by k_is) (by rfl) (by first | k_is | kernel_rfl | rfl | decide +kernel) (by k_is) (by first | k_is | kernel_rfl | rfl | decide +kernel) (by first | k_is | kernel_rfl | rfl | decide +kernel) (by first | k_is | kernel_rfl | rfl | decide +kernel) (by first | k_is | kernel_rfl | rfl | decide +kernel) (by first | k_is | kernel_rfl | rfl | decide +kernel) (by first | k_is | kernel_rfl | rfl | decide +kernel) (fun _ _ _ _ _ _ _ _ _ _ _ _ => rfl)
    · exact K00.bad1_mk (P := PySem.Challenge.rw_eachfive_k00_errors_made.prog) (C := 67) (cn := "BadEights") (fld := "eights") (tx := "no eights") KX G (by k_is) (by k_is) (by first | k_is | kernel_rfl | rfl | decide +kernel) (by first | k_is | kernel_rfl | rfl | decide +kernel) (by first | k_is | kernel_rfl | rfl | decide +kernel) (by first | k_is | kernel_rfl | rfl | decide +kernel) (by first | k_is | kernel_rfl | rfl | decide +kernel) (by first | k_is | kernel_rfl | rfl | decide +kernel) (by first | k_is | kernel_rfl | rfl | decide +kernel) (by first | k_is | kernel_rfl | rfl | decide +kernel) (by first | k_is | kernel_rfl | rfl | decide +kernel) (by first | k_is | kernel_rfl | rfl | decide +kernel) (by first | k_is | kernel_rfl | rfl | decide +kernel) (by first | k_is | kernel_rfl | rfl | decide +kernel) ms (by first | k_is | kernel_rfl | rfl | decide +kernel) (by k_is) (by first | k_is | kernel_rfl | rfl | decide +kernel) (by k_is) (by first | k_is | kernel_rfl | rfl | decide +kernel) (by k_is) (by rfl) (by first | k_is | kernel_rfl | rfl | decide +kernel) (by k_is) (by first | k_is | kernel_rfl | rfl | decide +kernel) (by first | k_is | kernel_rfl | rfl | decide +kernel) (by first | k_is | kernel_rfl | rfl | decide +kernel) (by first | k_is | kernel_rfl | rfl | decide +kernel) (by first | k_is | kernel_rfl | rfl | decide +kernel) (by first | k_is | kernel_rfl | rfl | decide +kernel) (fun _ _ _ _ _ _ _ _ _ _ _ _ => rfl)
    · exact K00.bad1_mk (P := PySem.Challenge.rw_eachfive_k00_errors_made.prog) (C := 88) (cn := "NoName") (fld := "name") (tx := "no name of the system") KX G (by k_is) (by k_is) (by first | k_is | kernel_rfl | rfl | decide +kernel) (by first | k_is | kernel_rfl | rfl | decide +kernel) (by first | k_is | kernel_rfl | rfl | decide +kernel) (by first | k_is | kernel_rfl | rfl | decide +kernel) (by first | k_is | kernel_rfl | rfl | decide +kernel) (by first | k_is | kernel_rfl | rfl | decide +kernel) (by first | k_is | kernel_rfl | rfl | decide +kernel) (by first | k_is | kernel_rfl | rfl | decide +kernel) (by first | k_is | kernel_rfl | rfl | decide +kernel) (by first | k_is | kernel_rfl | rfl | decide +kernel) (by first | k_is | kernel_rfl | rfl | decide +kernel) (by first | k_is | kernel_rfl | rfl | decide +kernel) ms (by first | k_is | kernel_rfl | rfl | decide +kernel) (by k_is) (by first | k_is | kernel_rfl | rfl | decide +kernel) (by k_is) (by first | k_is | kernel_rfl | rfl | decide +kernel) (by k_is) (by rfl) (by first | k_is | kernel_rfl | rfl | decide +kernel) (by k_is) (by first | k_is | kernel_rfl | rfl | decide +kernel) (by first | k_is | kernel_rfl | rfl | decide +kernel) (by first | k_is | kernel_rfl | rfl | decide +kernel) (by first | k_is | kernel_rfl | rfl | decide +kernel) (by first | k_is | kernel_rfl | rfl | decide +kernel) (by first | k_is | kernel_rfl | rfl | decide +kernel) (fun _ _ _ _ _ _ _ _ _ _ _ _ => rfl)
    · exact K00.bad1_mk (P := PySem.Challenge.rw_eachfive_k00_errors_made.prog) (C := 109) (cn := "BadLot") (fld := "lot") (tx := "no lot") KX G (by k_is) (by k_is) (by first | k_is | kernel_rfl | rfl | decide +kernel) (by first | k_is | kernel_rfl | rfl | decide +kernel) (by first | k_is | kernel_rfl | rfl | decide +kernel) (by first | k_is | kernel_rfl | rfl | decide +kernel) (by first | k_is | kernel_rfl | rfl | decide +kernel) (by first | k_is | kernel_rfl | rfl | decide +kernel) (by first | k_is | kernel_rfl | rfl | decide +kernel) (by first | k_is | kernel_rfl | rfl | decide +kernel) (by first | k_is | kernel_rfl | rfl | decide +kernel) (by first | k_is | kernel_rfl | rfl | decide +kernel) (by first | k_is | kernel_rfl | rfl | decide +kernel) (by first | k_is | kernel_rfl | rfl | decide +kernel) ms (by first | k_is | kernel_rfl | rfl | decide +kernel) (by k_is) (by first | k_is | kernel_rfl | rfl | decide +kernel) (by k_is) (by first | k_is | kernel_rfl | rfl | decide +kernel) (by k_is) (by rfl) (by first | k_is | kernel_rfl | rfl | decide +kernel) (by k_is) (by first | k_is | kernel_rfl | rfl | decide +kernel) (by first | k_is | kernel_rfl | rfl | decide +kernel) (by first | k_is | kernel_rfl | rfl | decide +kernel) (by first | k_is | kernel_rfl | rfl | decide +kernel) (by first | k_is | kernel_rfl | rfl | decide +kernel) (by first | k_is | kernel_rfl | rfl | decide +kernel) (fun _ _ _ _ _ _ _ _ _ _ _ _ => rfl)
    · exact K00.bad1_mk (P := PySem.Challenge.rw_eachfive_k00_errors_made.prog) (C := 130) (cn := "BadFive") (fld := "five") (tx := "no five unlike names of the system") KX G (by k_is) (by k_is) (by first | k_is | kernel_rfl | rfl | decide +kernel) (by first | k_is | kernel_rfl | rfl | decide +kernel) (by first | k_is | kernel_rfl | rfl | decide +kernel) (by first | k_is | kernel_rfl | rfl | decide +kernel) (by first | k_is | kernel_rfl | rfl | decide +kernel) (by first | k_is | kernel_rfl | rfl | decide +kernel) (by first | k_is | kernel_rfl | rfl | decide +kernel) (by first | k_is | kernel_rfl | rfl | decide +kernel) (by first | k_is | kernel_rfl | rfl | decide +kernel) (by first | k_is | kernel_rfl | rfl | decide +kernel) (by first | k_is | kernel_rfl | rfl | decide +kernel) (by first | k_is | kernel_rfl | rfl | decide +kernel) ms (by first | k_is | kernel_rfl | rfl | decide +kernel) (by k_is) (by first | k_is | kernel_rfl | rfl | decide +kernel) (by k_is) (by first | k_is | kernel_rfl | rfl | decide +kernel) (by k_is) (by rfl) (by first | k_is | kernel_rfl | rfl | decide +kernel) (by k_is) (by first | k_is | kernel_rfl | rfl | decide +kernel) (by first | k_is | kernel_rfl | rfl | decide +kernel) (by first | k_is | kernel_rfl | rfl | decide +kernel) (by first | k_is | kernel_rfl | rfl | decide +kernel) (by first | k_is | kernel_rfl | rfl | decide +kernel) (by first | k_is | kernel_rfl | rfl | decide +kernel) (fun _ _ _ _ _ _ _ _ _ _ _ _ => rfl)
    · exact K00.bad1_mk (P := PySem.Challenge.rw_eachfive_k00_errors_made.prog) (C := 151) (cn := "BadImage") (fld := "image") (tx := "no image") KX G (by k_is) (by k_is) (by first | k_is | kernel_rfl | rfl | decide +kernel) (by first | k_is | kernel_rfl | rfl | decide +kernel) (by first | k_is | kernel_rfl | rfl | decide +kernel) (by first | k_is | kernel_rfl | rfl | decide +kernel) (by first | k_is | kernel_rfl | rfl | decide +kernel) (by first | k_is | kernel_rfl | rfl | decide +kernel) (by first | k_is | kernel_rfl | rfl | decide +kernel) (by first | k_is | kernel_rfl | rfl | decide +kernel) (by first | k_is | kernel_rfl | rfl | decide +kernel) (by first | k_is | kernel_rfl | rfl | decide +kernel) (by first | k_is | kernel_rfl | rfl | decide +kernel) (by first | k_is | kernel_rfl | rfl | decide +kernel) ms (by first | k_is | kernel_rfl | rfl | decide +kernel) (by k_is) (by first | k_is | kernel_rfl | rfl | decide +kernel) (by k_is) (by first | k_is | kernel_rfl | rfl | decide +kernel) (by k_is) (by rfl) (by first | k_is | kernel_rfl | rfl | decide +kernel) (by k_is) (by first | k_is | kernel_rfl | rfl | decide +kernel) (by first | k_is | kernel_rfl | rfl | decide +kernel) (by first | k_is | kernel_rfl | rfl | decide +kernel) (by first | k_is | kernel_rfl | rfl | decide +kernel) (by first | k_is | kernel_rfl | rfl | decide +kernel) (by first | k_is | kernel_rfl | rfl | decide +kernel) (fun _ _ _ _ _ _ _ _ _ _ _ _ => rfl)
    · exact K00.bad1_mk (P := PySem.Challenge.rw_eachfive_k00_errors_made.prog) (C := 172) (cn := "BadNumber") (fld := "number") (tx := "no number") KX G (by k_is) (by k_is) (by first | k_is | kernel_rfl | rfl | decide +kernel) (by first | k_is | kernel_rfl | rfl | decide +kernel) (by first | k_is | kernel_rfl | rfl | decide +kernel) (by first | k_is | kernel_rfl | rfl | decide +kernel) (by first | k_is | kernel_rfl | rfl | decide +kernel) (by first | k_is | kernel_rfl | rfl | decide +kernel) (by first | k_is | kernel_rfl | rfl | decide +kernel) (by first | k_is | kernel_rfl | rfl | decide +kernel) (by first | k_is | kernel_rfl | rfl | decide +kernel) (by first | k_is | kernel_rfl | rfl | decide +kernel) (by first | k_is | kernel_rfl | rfl | decide +kernel) (by first | k_is | kernel_rfl | rfl | decide +kernel) ms (by first | k_is | kernel_rfl | rfl | decide +kernel) (by k_is) (by first | k_is | kernel_rfl | rfl | decide +kernel) (by k_is) (by first | k_is | kernel_rfl | rfl | decide +kernel) (by k_is) (by rfl) (by first | k_is | kernel_rfl | rfl | decide +kernel) (by k_is) (by first | k_is | kernel_rfl | rfl | decide +kernel) (by first | k_is | kernel_rfl | rfl | decide +kernel) (by first | k_is | kernel_rfl | rfl | decide +kernel) (by first | k_is | kernel_rfl | rfl | decide +kernel) (by first | k_is | kernel_rfl | rfl | decide +kernel) (by first | k_is | kernel_rfl | rfl | decide +kernel) (fun _ _ _ _ _ _ _ _ _ _ _ _ => rfl)
    · exact K00.bad1_mk (P := PySem.Challenge.rw_eachfive_k00_errors_made.prog) (C := 193) (cn := "BadEight") (fld := "eight") (tx := "no eight of the system") KX G (by k_is) (by k_is) (by first | k_is | kernel_rfl | rfl | decide +kernel) (by first | k_is | kernel_rfl | rfl | decide +kernel) (by first | k_is | kernel_rfl | rfl | decide +kernel) (by first | k_is | kernel_rfl | rfl | decide +kernel) (by first | k_is | kernel_rfl | rfl | decide +kernel) (by first | k_is | kernel_rfl | rfl | decide +kernel) (by first | k_is | kernel_rfl | rfl | decide +kernel) (by first | k_is | kernel_rfl | rfl | decide +kernel) (by first | k_is | kernel_rfl | rfl | decide +kernel) (by first | k_is | kernel_rfl | rfl | decide +kernel) (by first | k_is | kernel_rfl | rfl | decide +kernel) (by first | k_is | kernel_rfl | rfl | decide +kernel) ms (by first | k_is | kernel_rfl | rfl | decide +kernel) (by k_is) (by first | k_is | kernel_rfl | rfl | decide +kernel) (by k_is) (by first | k_is | kernel_rfl | rfl | decide +kernel) (by k_is) (by rfl) (by first | k_is | kernel_rfl | rfl | decide +kernel) (by k_is) (by first | k_is | kernel_rfl | rfl | decide +kernel) (by first | k_is | kernel_rfl | rfl | decide +kernel) (by first | k_is | kernel_rfl | rfl | decide +kernel) (by first | k_is | kernel_rfl | rfl | decide +kernel) (by first | k_is | kernel_rfl | rfl | decide +kernel) (by first | k_is | kernel_rfl | rfl | decide +kernel) (fun _ _ _ _ _ _ _ _ _ _ _ _ => rfl)
    · exact K00.bad1_mk (P := PySem.Challenge.rw_eachfive_k00_errors_made.prog) (C := 214) (cn := "BadRows") (fld := "rows") (tx := "no rows of the system") KX G (by k_is) (by k_is) (by first | k_is | kernel_rfl | rfl | decide +kernel) (by first | k_is | kernel_rfl | rfl | decide +kernel) (by first | k_is | kernel_rfl | rfl | decide +kernel) (by first | k_is | kernel_rfl | rfl | decide +kernel) (by first | k_is | kernel_rfl | rfl | decide +kernel) (by first | k_is | kernel_rfl | rfl | decide +kernel) (by first | k_is | kernel_rfl | rfl | decide +kernel) (by first | k_is | kernel_rfl | rfl | decide +kernel) (by first | k_is | kernel_rfl | rfl | decide +kernel) (by first | k_is | kernel_rfl | rfl | decide +kernel) (by first | k_is | kernel_rfl | rfl | decide +kernel) (by first | k_is | kernel_rfl | rfl | decide +kernel) ms (by first | k_is | kernel_rfl | rfl | decide +kernel) (by k_is) (by first | k_is | kernel_rfl | rfl | decide +kernel) (by k_is) (by first | k_is | kernel_rfl | rfl | decide +kernel) (by k_is) (by rfl) (by first | k_is | kernel_rfl | rfl | decide +kernel) (by k_is) (by first | k_is | kernel_rfl | rfl | decide +kernel) (by first | k_is | kernel_rfl | rfl | decide +kernel) (by first | k_is | kernel_rfl | rfl | decide +kernel) (by first | k_is | kernel_rfl | rfl | decide +kernel) (by first | k_is | kernel_rfl | rfl | decide +kernel) (by first | k_is | kernel_rfl | rfl | decide +kernel) (fun _ _ _ _ _ _ _ _ _ _ _ _ => rfl)
    · exact K00.bad1_mk (P := PySem.Challenge.rw_eachfive_k00_errors_made.prog) (C := 235) (cn := "BadSeven") (fld := "seven") (tx := "no proper seven") KX G (by k_is) (by k_is) (by first | k_is | kernel_rfl | rfl | decide +kernel) (by first | k_is | kernel_rfl | rfl | decide +kernel) (by first | k_is | kernel_rfl | rfl | decide +kernel) (by first | k_is | kernel_rfl | rfl | decide +kernel) (by first | k_is | kernel_rfl | rfl | decide +kernel) (by first | k_is | kernel_rfl | rfl | decide +kernel) (by first | k_is | kernel_rfl | rfl | decide +kernel) (by first | k_is | kernel_rfl | rfl | decide +kernel) (by first | k_is | kernel_rfl | rfl | decide +kernel) (by first | k_is | kernel_rfl | rfl | decide +kernel) (by first | k_is | kernel_rfl | rfl | decide +kernel) (by first | k_is | kernel_rfl | rfl | decide +kernel) ms (by first | k_is | kernel_rfl | rfl | decide +kernel) (by k_is) (by first | k_is | kernel_rfl | rfl | decide +kernel) (by k_is) (by first | k_is | kernel_rfl | rfl | decide +kernel) (by k_is) (by rfl) (by first | k_is | kernel_rfl | rfl | decide +kernel) (by k_is) (by first | k_is | kernel_rfl | rfl | decide +kernel) (by first | k_is | kernel_rfl | rfl | decide +kernel) (by first | k_is | kernel_rfl | rfl | decide +kernel) (by first | k_is | kernel_rfl | rfl | decide +kernel) (by first | k_is | kernel_rfl | rfl | decide +kernel) (by first | k_is | kernel_rfl | rfl | decide +kernel) (fun _ _ _ _ _ _ _ _ _ _ _ _ => rfl)
    · exact K00.bad1_mk (P := PySem.Challenge.rw_eachfive_k00_errors_made.prog) (C := 256) (cn := "BadMap") (fld := "own_map") (tx := "no map") KX G (by k_is) (by k_is) (by first | k_is | kernel_rfl | rfl | decide +kernel) (by first | k_is | kernel_rfl | rfl | decide +kernel) (by first | k_is | kernel_rfl | rfl | decide +kernel) (by first | k_is | kernel_rfl | rfl | decide +kernel) (by first | k_is | kernel_rfl | rfl | decide +kernel) (by first | k_is | kernel_rfl | rfl | decide +kernel) (by first | k_is | kernel_rfl | rfl | decide +kernel) (by first | k_is | kernel_rfl | rfl | decide +kernel) (by first | k_is | kernel_rfl | rfl | decide +kernel) (by first | k_is | kernel_rfl | rfl | decide +kernel) (by first | k_is | kernel_rfl | rfl | decide +kernel) (by first | k_is | kernel_rfl | rfl | decide +kernel) ms (by first | k_is | kernel_rfl | rfl | decide +kernel) (by k_is) (by first | k_is | kernel_rfl | rfl | decide +kernel) (by k_is) (by first | k_is | kernel_rfl | rfl | decide +kernel) (by k_is) (by rfl) (by first | k_is | kernel_rfl | rfl | decide +kernel) (by k_is) (by first | k_is | kernel_rfl | rfl | decide +kernel) (by first | k_is | kernel_rfl | rfl | decide +kernel) (by first | k_is | kernel_rfl | rfl | decide +kernel) (by first | k_is | kernel_rfl | rfl | decide +kernel) (by first | k_is | kernel_rfl | rfl | decide +kernel) (by first | k_is | kernel_rfl | rfl | decide +kernel) (fun _ _ _ _ _ _ _ _ _ _ _ _ => rfl)
    · exact K00.bad1_mk (P := PySem.Challenge.rw_eachfive_k00_errors_made.prog) (C := 277) (cn := "BadSigns") (fld := "signs") (tx := "no signs") KX G (by k_is) (by k_is) (by first | k_is | kernel_rfl | rfl | decide +kernel) (by first | k_is | kernel_rfl | rfl | decide +kernel) (by first | k_is | kernel_rfl | rfl | decide +kernel) (by first | k_is | kernel_rfl | rfl | decide +kernel) (by first | k_is | kernel_rfl | rfl | decide +kernel) (by first | k_is | kernel_rfl | rfl | decide +kernel) (by first | k_is | kernel_rfl | rfl | decide +kernel) (by first | k_is | kernel_rfl | rfl | decide +kernel) (by first | k_is | kernel_rfl | rfl | decide +kernel) (by first | k_is | kernel_rfl | rfl | decide +kernel) (by first | k_is | kernel_rfl | rfl | decide +kernel) (by first | k_is | kernel_rfl | rfl | decide +kernel) ms (by first | k_is | kernel_rfl | rfl | decide +kernel) (by k_is) (by first | k_is | kernel_rfl | rfl | decide +kernel) (by k_is) (by first | k_is | kernel_rfl | rfl | decide +kernel) (by k_is) (by rfl) (by first | k_is | kernel_rfl | rfl | decide +kernel) (by k_is) (by first | k_is | kernel_rfl | rfl | decide +kernel) (by first | k_is | kernel_rfl | rfl | decide +kernel) (by first | k_is | kernel_rfl | rfl | decide +kernel) (by first | k_is | kernel_rfl | rfl | decide +kernel) (by first | k_is | kernel_rfl | rfl | decide +kernel) (by first | k_is | kernel_rfl | rfl | decide +kernel) (fun _ _ _ _ _ _ _ _ _ _ _ _ => rfl)
    · exact K00.bad1_mk (P := PySem.Challenge.rw_eachfive_k00_errors_made.prog) (C := 298) (cn := "BadNumbers") (fld := "numbers") (tx := "no list of such numbers") KX G (by k_is) (by k_is) (by first | k_is | kernel_rfl | rfl | decide +kernel) (by first | k_is | kernel_rfl | rfl | decide +kernel) (by first | k_is | kernel_rfl | rfl | decide +kernel) (by first | k_is | kernel_rfl | rfl | decide +kernel) (by first | k_is | kernel_rfl | rfl | decide +kernel) (by first | k_is | kernel_rfl | rfl | decide +kernel) (by first | k_is | kernel_rfl | rfl | decide +kernel) (by first | k_is | kernel_rfl | rfl | decide +kernel) (by first | k_is | kernel_rfl | rfl | decide +kernel) (by first | k_is | kernel_rfl | rfl | decide +kernel) (by first | k_is | kernel_rfl | rfl | decide +kernel) (by first | k_is | kernel_rfl | rfl | decide +kernel) ms (by first | k_is | kernel_rfl | rfl | decide +kernel) (by k_is) (by first | k_is | kernel_rfl | rfl | decide +kernel) (by k_is) (by first | k_is | kernel_rfl | rfl | decide +kernel) (by k_is) (by rfl) (by first | k_is | kernel_rfl | rfl | decide +kernel) (by k_is) (by first | k_is | kernel_rfl | rfl | decide +kernel) (by first | k_is | kernel_rfl | rfl | decide +kernel) (by first | k_is | kernel_rfl | rfl | decide +kernel) (by first | k_is | kernel_rfl | rfl | decide +kernel) (by first | k_is | kernel_rfl | rfl | decide +kernel) (by first | k_is | kernel_rfl | rfl | decide +kernel) (fun _ _ _ _ _ _ _ _ _ _ _ _ => rfl)
    · exact K00.bad1_mk (P := PySem.Challenge.rw_eachfive_k00_errors_made.prog) (C := 319) (cn := "BadQuestion") (fld := "question") (tx := "no question") KX G (by k_is) (by k_is) (by first | k_is | kernel_rfl | rfl | decide +kernel) (by first | k_is | kernel_rfl | rfl | decide +kernel) (by first | k_is | kernel_rfl | rfl | decide +kernel) (by first | k_is | kernel_rfl | rfl | decide +kernel) (by first | k_is | kernel_rfl | rfl | decide +kernel) (by first | k_is | kernel_rfl | rfl | decide +kernel) (by first | k_is | kernel_rfl | rfl | decide +kernel) (by first | k_is | kernel_rfl | rfl | decide +kernel) (by first | k_is | kernel_rfl | rfl | decide +kernel) (by first | k_is | kernel_rfl | rfl | decide +kernel) (by first | k_is | kernel_rfl | rfl | decide +kernel) (by first | k_is | kernel_rfl | rfl | decide +kernel) ms (by first | k_is | kernel_rfl | rfl | decide +kernel) (by k_is) (by first | k_is | kernel_rfl | rfl | decide +kernel) (by k_is) (by first | k_is | kernel_rfl | rfl | decide +kernel) (by k_is) (by rfl) (by first | k_is | kernel_rfl | rfl | decide +kernel) (by k_is) (by first | k_is | kernel_rfl | rfl | decide +kernel) (by first | k_is | kernel_rfl | rfl | decide +kernel) (by first | k_is | kernel_rfl | rfl | decide +kernel) (by first | k_is | kernel_rfl | rfl | decide +kernel) (by first | k_is | kernel_rfl | rfl | decide +kernel) (by first | k_is | kernel_rfl | rfl | decide +kernel) (fun _ _ _ _ _ _ _ _ _ _ _ _ => rfl)
    · exact K00.bad1_mk (P := PySem.Challenge.rw_eachfive_k00_errors_made.prog) (C := 340) (cn := "BadHalf") (fld := "half") (tx := "no half") KX G (by k_is) (by k_is) (by first | k_is | kernel_rfl | rfl | decide +kernel) (by first | k_is | kernel_rfl | rfl | decide +kernel) (by first | k_is | kernel_rfl | rfl | decide +kernel) (by first | k_is | kernel_rfl | rfl | decide +kernel) (by first | k_is | kernel_rfl | rfl | decide +kernel) (by first | k_is | kernel_rfl | rfl | decide +kernel) (by first | k_is | kernel_rfl | rfl | decide +kernel) (by first | k_is | kernel_rfl | rfl | decide +kernel) (by first | k_is | kernel_rfl | rfl | decide +kernel) (by first | k_is | kernel_rfl | rfl | decide +kernel) (by first | k_is | kernel_rfl | rfl | decide +kernel) (by first | k_is | kernel_rfl | rfl | decide +kernel) ms (by first | k_is | kernel_rfl | rfl | decide +kernel) (by k_is) (by first | k_is | kernel_rfl | rfl | decide +kernel) (by k_is) (by first | k_is | kernel_rfl | rfl | decide +kernel) (by k_is) (by rfl) (by first | k_is | kernel_rfl | rfl | decide +kernel) (by k_is) (by first | k_is | kernel_rfl | rfl | decide +kernel) (by first | k_is | kernel_rfl | rfl | decide +kernel) (by first | k_is | kernel_rfl | rfl | decide +kernel) (by first | k_is | kernel_rfl | rfl | decide +kernel) (by first | k_is | kernel_rfl | rfl | decide +kernel) (by first | k_is | kernel_rfl | rfl | decide +kernel) (fun _ _ _ _ _ _ _ _ _ _ _ _ => rfl)
    · exact K00.bad1_mk (P := PySem.Challenge.rw_eachfive_k00_errors_made.prog) (C := 361) (cn := "BadFour") (fld := "four") (tx := "no lot of four names") KX G (by k_is) (by k_is) (by first | k_is | kernel_rfl | rfl | decide +kernel) (by first | k_is | kernel_rfl | rfl | decide +kernel) (by first | k_is | kernel_rfl | rfl | decide +kernel) (by first | k_is | kernel_rfl | rfl | decide +kernel) (by first | k_is | kernel_rfl | rfl | decide +kernel) (by first | k_is | kernel_rfl | rfl | decide +kernel) (by first | k_is | kernel_rfl | rfl | decide +kernel) (by first | k_is | kernel_rfl | rfl | decide +kernel) (by first | k_is | kernel_rfl | rfl | decide +kernel) (by first | k_is | kernel_rfl | rfl | decide +kernel) (by first | k_is | kernel_rfl | rfl | decide +kernel) (by first | k_is | kernel_rfl | rfl | decide +kernel) ms (by first | k_is | kernel_rfl | rfl | decide +kernel) (by k_is) (by first | k_is | kernel_rfl | rfl | decide +kernel) (by k_is) (by first | k_is | kernel_rfl | rfl | decide +kernel) (by k_is) (by rfl) (by first | k_is | kernel_rfl | rfl | decide +kernel) (by k_is) (by first | k_is | kernel_rfl | rfl | decide +kernel) (by first | k_is | kernel_rfl | rfl | decide +kernel) (by first | k_is | kernel_rfl | rfl | decide +kernel) (by first | k_is | kernel_rfl | rfl | decide +kernel) (by first | k_is | kernel_rfl | rfl | decide +kernel) (by first | k_is | kernel_rfl | rfl | decide +kernel) (fun _ _ _ _ _ _ _ _ _ _ _ _ => rfl)
    · exact K00.bad1_mk (P := PySem.Challenge.rw_eachfive_k00_errors_made.prog) (C := 382) (cn := "BadSextet") (fld := "sextet") (tx := "no sextet") KX G (by k_is) (by k_is) (by first | k_is | kernel_rfl | rfl | decide +kernel) (by first | k_is | kernel_rfl | rfl | decide +kernel) (by first | k_is | kernel_rfl | rfl | decide +kernel) (by first | k_is | kernel_rfl | rfl | decide +kernel) (by first | k_is | kernel_rfl | rfl | decide +kernel) (by first | k_is | kernel_rfl | rfl | decide +kernel) (by first | k_is | kernel_rfl | rfl | decide +kernel) (by first | k_is | kernel_rfl | rfl | decide +kernel) (by first | k_is | kernel_rfl | rfl | decide +kernel) (by first | k_is | kernel_rfl | rfl | decide +kernel) (by first | k_is | kernel_rfl | rfl | decide +kernel) (by first | k_is | kernel_rfl | rfl | decide +kernel) ms (by first | k_is | kernel_rfl | rfl | decide +kernel) (by k_is) (by first | k_is | kernel_rfl | rfl | decide +kernel) (by k_is) (by first | k_is | kernel_rfl | rfl | decide +kernel) (by k_is) (by rfl) (by first | k_is | kernel_rfl | rfl | decide +kernel) (by k_is) (by first | k_is | kernel_rfl | rfl | decide +kernel) (by first | k_is | kernel_rfl | rfl | decide +kernel) (by first | k_is | kernel_rfl | rfl | decide +kernel) (by first | k_is | kernel_rfl | rfl | decide +kernel) (by first | k_is | kernel_rfl | rfl | decide +kernel) (by first | k_is | kernel_rfl | rfl | decide +kernel) (fun _ _ _ _ _ _ _ _ _ _ _ _ => rfl)
    · exact K00.bad1_mk (P := PySem.Challenge.rw_eachfive_k00_errors_made.prog) (C := 403) (cn := "BadKind") (fld := "kind") (tx := "no kind of two sextets") KX G (by k_is) (by k_is) (by first | k_is | kernel_rfl | rfl | decide +kernel) (by first | k_is | kernel_rfl | rfl | decide +kernel) (by first | k_is | kernel_rfl | rfl | decide +kernel) (by first | k_is | kernel_rfl | rfl | decide +kernel) (by first | k_is | kernel_rfl | rfl | decide +kernel) (by first | k_is | kernel_rfl | rfl | decide +kernel) (by first | k_is | kernel_rfl | rfl | decide +kernel) (by first | k_is | kernel_rfl | rfl | decide +kernel) (by first | k_is | kernel_rfl | rfl | decide +kernel) (by first | k_is | kernel_rfl | rfl | decide +kernel) (by first | k_is | kernel_rfl | rfl | decide +kernel) (by first | k_is | kernel_rfl | rfl | decide +kernel) ms (by first | k_is | kernel_rfl | rfl | decide +kernel) (by k_is) (by first | k_is | kernel_rfl | rfl | decide +kernel) (by k_is) (by first | k_is | kernel_rfl | rfl | decide +kernel) (by k_is) (by rfl) (by first | k_is | kernel_rfl | rfl | decide +kernel) (by k_is) (by first | k_is | kernel_rfl | rfl | decide +kernel) (by first | k_is | kernel_rfl | rfl | decide +kernel) (by first | k_is | kernel_rfl | rfl | decide +kernel) (by first | k_is | kernel_rfl | rfl | decide +kernel) (by first | k_is | kernel_rfl | rfl | decide +kernel) (by first | k_is | kernel_rfl | rfl | decide +kernel) (fun _ _ _ _ _ _ _ _ _ _ _ _ => rfl)
    · exact K00.bad1_mk (P := PySem.Challenge.rw_eachfive_k00_errors_made.prog) (C := 424) (cn := "NotApart") (fld := "name") (tx := "a name is in both eights") KX G (by k_is) (by k_is) (by first | k_is | kernel_rfl | rfl | decide +kernel) (by first | k_is | kernel_rfl | rfl | decide +kernel) (by first | k_is | kernel_rfl | rfl | decide +kernel) (by first | k_is | kernel_rfl | rfl | decide +kernel) (by first | k_is | kernel_rfl | rfl | decide +kernel) (by first | k_is | kernel_rfl | rfl | decide +kernel) (by first | k_is | kernel_rfl | rfl | decide +kernel) (by first | k_is | kernel_rfl | rfl | decide +kernel) (by first | k_is | kernel_rfl | rfl | decide +kernel) (by first | k_is | kernel_rfl | rfl | decide +kernel) (by first | k_is | kernel_rfl | rfl | decide +kernel) (by first | k_is | kernel_rfl | rfl | decide +kernel) ms (by first | k_is | kernel_rfl | rfl | decide +kernel) (by k_is) (by first | k_is | kernel_rfl | rfl | decide +kernel) (by k_is) (by first | k_is | kernel_rfl | rfl | decide +kernel) (by k_is) (by rfl) (by first | k_is | kernel_rfl | rfl | decide +kernel) (by k_is) (by first | k_is | kernel_rfl | rfl | decide +kernel) (by first | k_is | kernel_rfl | rfl | decide +kernel) (by first | k_is | kernel_rfl | rfl | decide +kernel) (by first | k_is | kernel_rfl | rfl | decide +kernel) (by first | k_is | kernel_rfl | rfl | decide +kernel) (by first | k_is | kernel_rfl | rfl | decide +kernel) (fun _ _ _ _ _ _ _ _ _ _ _ _ => rfl)
    · exact K00.bad1_mk (P := PySem.Challenge.rw_eachfive_k00_errors_made.prog) (C := 445) (cn := "BadTrio") (fld := "trio") (tx := "no trio") KX G (by k_is) (by k_is) (by first | k_is | kernel_rfl | rfl | decide +kernel) (by first | k_is | kernel_rfl | rfl | decide +kernel) (by first | k_is | kernel_rfl | rfl | decide +kernel) (by first | k_is | kernel_rfl | rfl | decide +kernel) (by first | k_is | kernel_rfl | rfl | decide +kernel) (by first | k_is | kernel_rfl | rfl | decide +kernel) (by first | k_is | kernel_rfl | rfl | decide +kernel) (by first | k_is | kernel_rfl | rfl | decide +kernel) (by first | k_is | kernel_rfl | rfl | decide +kernel) (by first | k_is | kernel_rfl | rfl | decide +kernel) (by first | k_is | kernel_rfl | rfl | decide +kernel) (by first | k_is | kernel_rfl | rfl | decide +kernel) ms (by first | k_is | kernel_rfl | rfl | decide +kernel) (by k_is) (by first | k_is | kernel_rfl | rfl | decide +kernel) (by k_is) (by first | k_is | kernel_rfl | rfl | decide +kernel) (by k_is) (by rfl) (by first | k_is | kernel_rfl | rfl | decide +kernel) (by k_is) (by first | k_is | kernel_rfl | rfl | decide +kernel) (by first | k_is | kernel_rfl | rfl | decide +kernel) (by first | k_is | kernel_rfl | rfl | decide +kernel) (by first | k_is | kernel_rfl | rfl | decide +kernel) (by first | k_is | kernel_rfl | rfl | decide +kernel) (by first | k_is | kernel_rfl | rfl | decide +kernel) (fun _ _ _ _ _ _ _ _ _ _ _ _ => rfl)
    · exact K00.bad1_mk (P := PySem.Challenge.rw_eachfive_k00_errors_made.prog) (C := 466) (cn := "BadTwelve") (fld := "twelve") (tx := "no twelve") KX G (by k_is) (by k_is) (by first | k_is | kernel_rfl | rfl | decide +kernel) (by first | k_is | kernel_rfl | rfl | decide +kernel) (by first | k_is | kernel_rfl | rfl | decide +kernel) (by first | k_is | kernel_rfl | rfl | decide +kernel) (by first | k_is | kernel_rfl | rfl | decide +kernel) (by first | k_is | kernel_rfl | rfl | decide +kernel) (by first | k_is | kernel_rfl | rfl | decide +kernel) (by first | k_is | kernel_rfl | rfl | decide +kernel) (by first | k_is | kernel_rfl | rfl | decide +kernel) (by first | k_is | kernel_rfl | rfl | decide +kernel) (by first | k_is | kernel_rfl | rfl | decide +kernel) (by first | k_is | kernel_rfl | rfl | decide +kernel) ms (by first | k_is | kernel_rfl | rfl | decide +kernel) (by k_is) (by first | k_is | kernel_rfl | rfl | decide +kernel) (by k_is) (by first | k_is | kernel_rfl | rfl | decide +kernel) (by k_is) (by rfl) (by first | k_is | kernel_rfl | rfl | decide +kernel) (by k_is) (by first | k_is | kernel_rfl | rfl | decide +kernel) (by first | k_is | kernel_rfl | rfl | decide +kernel) (by first | k_is | kernel_rfl | rfl | decide +kernel) (by first | k_is | kernel_rfl | rfl | decide +kernel) (by first | k_is | kernel_rfl | rfl | decide +kernel) (by first | k_is | kernel_rfl | rfl | decide +kernel) (fun _ _ _ _ _ _ _ _ _ _ _ _ => rfl)
    · exact K00.bad1_mk (P := PySem.Challenge.rw_eachfive_k00_errors_made.prog) (C := 487) (cn := "BadSix") (fld := "six") (tx := "no such six") KX G (by k_is) (by k_is) (by first | k_is | kernel_rfl | rfl | decide +kernel) (by first | k_is | kernel_rfl | rfl | decide +kernel) (by first | k_is | kernel_rfl | rfl | decide +kernel) (by first | k_is | kernel_rfl | rfl | decide +kernel) (by first | k_is | kernel_rfl | rfl | decide +kernel) (by first | k_is | kernel_rfl | rfl | decide +kernel) (by first | k_is | kernel_rfl | rfl | decide +kernel) (by first | k_is | kernel_rfl | rfl | decide +kernel) (by first | k_is | kernel_rfl | rfl | decide +kernel) (by first | k_is | kernel_rfl | rfl | decide +kernel) (by first | k_is | kernel_rfl | rfl | decide +kernel) (by first | k_is | kernel_rfl | rfl | decide +kernel) ms (by first | k_is | kernel_rfl | rfl | decide +kernel) (by k_is) (by first | k_is | kernel_rfl | rfl | decide +kernel) (by k_is) (by first | k_is | kernel_rfl | rfl | decide +kernel) (by k_is) (by rfl) (by first | k_is | kernel_rfl | rfl | decide +kernel) (by k_is) (by first | k_is | kernel_rfl | rfl | decide +kernel) (by first | k_is | kernel_rfl | rfl | decide +kernel) (by first | k_is | kernel_rfl | rfl | decide +kernel) (by first | k_is | kernel_rfl | rfl | decide +kernel) (by first | k_is | kernel_rfl | rfl | decide +kernel) (by first | k_is | kernel_rfl | rfl | decide +kernel) (fun _ _ _ _ _ _ _ _ _ _ _ _ => rfl)
    · exact K00.bad1_mk (P := PySem.Challenge.rw_eachfive_k00_errors_made.prog) (C := 508) (cn := "BadLine") (fld := "line") (tx := "no other line of the plane") KX G (by k_is) (by k_is) (by first | k_is | kernel_rfl | rfl | decide +kernel) (by first | k_is | kernel_rfl | rfl | decide +kernel) (by first | k_is | kernel_rfl | rfl | decide +kernel) (by first | k_is | kernel_rfl | rfl | decide +kernel) (by first | k_is | kernel_rfl | rfl | decide +kernel) (by first | k_is | kernel_rfl | rfl | decide +kernel) (by first | k_is | kernel_rfl | rfl | decide +kernel) (by first | k_is | kernel_rfl | rfl | decide +kernel) (by first | k_is | kernel_rfl | rfl | decide +kernel) (by first | k_is | kernel_rfl | rfl | decide +kernel) (by first | k_is | kernel_rfl | rfl | decide +kernel) (by first | k_is | kernel_rfl | rfl | decide +kernel) ms (by first | k_is | kernel_rfl | rfl | decide +kernel) (by k_is) (by first | k_is | kernel_rfl | rfl | decide +kernel) (by k_is) (by first | k_is | kernel_rfl | rfl | decide +kernel) (by k_is) (by rfl) (by first | k_is | kernel_rfl | rfl | decide +kernel) (by k_is) (by first | k_is | kernel_rfl | rfl | decide +kernel) (by first | k_is | kernel_rfl | rfl | decide +kernel) (by first | k_is | kernel_rfl | rfl | decide +kernel) (by first | k_is | kernel_rfl | rfl | decide +kernel) (by first | k_is | kernel_rfl | rfl | decide +kernel) (by first | k_is | kernel_rfl | rfl | decide +kernel) (fun _ _ _ _ _ _ _ _ _ _ _ _ => rfl)
    · exact K00.bad1_mk (P := PySem.Challenge.rw_eachfive_k00_errors_made.prog) (C := 529) (cn := "BadSixes") (fld := "sixes") (tx := "no sixes") KX G (by k_is) (by k_is) (by first | k_is | kernel_rfl | rfl | decide +kernel) (by first | k_is | kernel_rfl | rfl | decide +kernel) (by first | k_is | kernel_rfl | rfl | decide +kernel) (by first | k_is | kernel_rfl | rfl | decide +kernel) (by first | k_is | kernel_rfl | rfl | decide +kernel) (by first | k_is | kernel_rfl | rfl | decide +kernel) (by first | k_is | kernel_rfl | rfl | decide +kernel) (by first | k_is | kernel_rfl | rfl | decide +kernel) (by first | k_is | kernel_rfl | rfl | decide +kernel) (by first | k_is | kernel_rfl | rfl | decide +kernel) (by first | k_is | kernel_rfl | rfl | decide +kernel) (by first | k_is | kernel_rfl | rfl | decide +kernel) ms (by first | k_is | kernel_rfl | rfl | decide +kernel) (by k_is) (by first | k_is | kernel_rfl | rfl | decide +kernel) (by k_is) (by first | k_is | kernel_rfl | rfl | decide +kernel) (by k_is) (by rfl) (by first | k_is | kernel_rfl | rfl | decide +kernel) (by k_is) (by first | k_is | kernel_rfl | rfl | decide +kernel) (by first | k_is | kernel_rfl | rfl | decide +kernel) (by first | k_is | kernel_rfl | rfl | decide +kernel) (by first | k_is | kernel_rfl | rfl | decide +kernel) (by first | k_is | kernel_rfl | rfl | decide +kernel) (by first | k_is | kernel_rfl | rfl | decide +kernel) (fun _ _ _ _ _ _ _ _ _ _ _ _ => rfl)
    · exact K00.bad1_mk (P := PySem.Challenge.rw_eachfive_k00_errors_made.prog) (C := 550) (cn := "BadRow") (fld := "row") (tx := "no row of five unlike names") KX G (by k_is) (by k_is) (by first | k_is | kernel_rfl | rfl | decide +kernel) (by first | k_is | kernel_rfl | rfl | decide +kernel) (by first | k_is | kernel_rfl | rfl | decide +kernel) (by first | k_is | kernel_rfl | rfl | decide +kernel) (by first | k_is | kernel_rfl | rfl | decide +kernel) (by first | k_is | kernel_rfl | rfl | decide +kernel) (by first | k_is | kernel_rfl | rfl | decide +kernel) (by first | k_is | kernel_rfl | rfl | decide +kernel) (by first | k_is | kernel_rfl | rfl | decide +kernel) (by first | k_is | kernel_rfl | rfl | decide +kernel) (by first | k_is | kernel_rfl | rfl | decide +kernel) (by first | k_is | kernel_rfl | rfl | decide +kernel) ms (by first | k_is | kernel_rfl | rfl | decide +kernel) (by k_is) (by first | k_is | kernel_rfl | rfl | decide +kernel) (by k_is) (by first | k_is | kernel_rfl | rfl | decide +kernel) (by k_is) (by rfl) (by first | k_is | kernel_rfl | rfl | decide +kernel) (by k_is) (by first | k_is | kernel_rfl | rfl | decide +kernel) (by first | k_is | kernel_rfl | rfl | decide +kernel) (by first | k_is | kernel_rfl | rfl | decide +kernel) (by first | k_is | kernel_rfl | rfl | decide +kernel) (by first | k_is | kernel_rfl | rfl | decide +kernel) (by first | k_is | kernel_rfl | rfl | decide +kernel) (fun _ _ _ _ _ _ _ _ _ _ _ _ => rfl)
    · exact K00.bad1_mk (P := PySem.Challenge.rw_eachfive_k00_errors_made.prog) (C := 571) (cn := "BadMarking") (fld := "marking") (tx := "no marking") KX G (by k_is) (by k_is) (by first | k_is | kernel_rfl | rfl | decide +kernel) (by first | k_is | kernel_rfl | rfl | decide +kernel) (by first | k_is | kernel_rfl | rfl | decide +kernel) (by first | k_is | kernel_rfl | rfl | decide +kernel) (by first | k_is | kernel_rfl | rfl | decide +kernel) (by first | k_is | kernel_rfl | rfl | decide +kernel) (by first | k_is | kernel_rfl | rfl | decide +kernel) (by first | k_is | kernel_rfl | rfl | decide +kernel) (by first | k_is | kernel_rfl | rfl | decide +kernel) (by first | k_is | kernel_rfl | rfl | decide +kernel) (by first | k_is | kernel_rfl | rfl | decide +kernel) (by first | k_is | kernel_rfl | rfl | decide +kernel) ms (by first | k_is | kernel_rfl | rfl | decide +kernel) (by k_is) (by first | k_is | kernel_rfl | rfl | decide +kernel) (by k_is) (by first | k_is | kernel_rfl | rfl | decide +kernel) (by k_is) (by rfl) (by first | k_is | kernel_rfl | rfl | decide +kernel) (by k_is) (by first | k_is | kernel_rfl | rfl | decide +kernel) (by first | k_is | kernel_rfl | rfl | decide +kernel) (by first | k_is | kernel_rfl | rfl | decide +kernel) (by first | k_is | kernel_rfl | rfl | decide +kernel) (by first | k_is | kernel_rfl | rfl | decide +kernel) (by first | k_is | kernel_rfl | rfl | decide +kernel) (fun _ _ _ _ _ _ _ _ _ _ _ _ => rfl)
    · exact K00.bad1_mk (P := PySem.Challenge.rw_eachfive_k00_errors_made.prog) (C := 592) (cn := "BadMarks") (fld := "marks") (tx := "no marks") KX G (by k_is) (by k_is) (by first | k_is | kernel_rfl | rfl | decide +kernel) (by first | k_is | kernel_rfl | rfl | decide +kernel) (by first | k_is | kernel_rfl | rfl | decide +kernel) (by first | k_is | kernel_rfl | rfl | decide +kernel) (by first | k_is | kernel_rfl | rfl | decide +kernel) (by first | k_is | kernel_rfl | rfl | decide +kernel) (by first | k_is | kernel_rfl | rfl | decide +kernel) (by first | k_is | kernel_rfl | rfl | decide +kernel) (by first | k_is | kernel_rfl | rfl | decide +kernel) (by first | k_is | kernel_rfl | rfl | decide +kernel) (by first | k_is | kernel_rfl | rfl | decide +kernel) (by first | k_is | kernel_rfl | rfl | decide +kernel) ms (by first | k_is | kernel_rfl | rfl | decide +kernel) (by k_is) (by first | k_is | kernel_rfl | rfl | decide +kernel) (by k_is) (by first | k_is | kernel_rfl | rfl | decide +kernel) (by k_is) (by rfl) (by first | k_is | kernel_rfl | rfl | decide +kernel) (by k_is) (by first | k_is | kernel_rfl | rfl | decide +kernel) (by first | k_is | kernel_rfl | rfl | decide +kernel) (by first | k_is | kernel_rfl | rfl | decide +kernel) (by first | k_is | kernel_rfl | rfl | decide +kernel) (by first | k_is | kernel_rfl | rfl | decide +kernel) (by first | k_is | kernel_rfl | rfl | decide +kernel) (fun _ _ _ _ _ _ _ _ _ _ _ _ => rfl)
    · exact K00.bad1_mk (P := PySem.Challenge.rw_eachfive_k00_errors_made.prog) (C := 613) (cn := "BadStand") (fld := "stand") (tx := "no stand of the game") KX G (by k_is) (by k_is) (by first | k_is | kernel_rfl | rfl | decide +kernel) (by first | k_is | kernel_rfl | rfl | decide +kernel) (by first | k_is | kernel_rfl | rfl | decide +kernel) (by first | k_is | kernel_rfl | rfl | decide +kernel) (by first | k_is | kernel_rfl | rfl | decide +kernel) (by first | k_is | kernel_rfl | rfl | decide +kernel) (by first | k_is | kernel_rfl | rfl | decide +kernel) (by first | k_is | kernel_rfl | rfl | decide +kernel) (by first | k_is | kernel_rfl | rfl | decide +kernel) (by first | k_is | kernel_rfl | rfl | decide +kernel) (by first | k_is | kernel_rfl | rfl | decide +kernel) (by first | k_is | kernel_rfl | rfl | decide +kernel) ms (by first | k_is | kernel_rfl | rfl | decide +kernel) (by k_is) (by first | k_is | kernel_rfl | rfl | decide +kernel) (by k_is) (by first | k_is | kernel_rfl | rfl | decide +kernel) (by k_is) (by rfl) (by first | k_is | kernel_rfl | rfl | decide +kernel) (by k_is) (by first | k_is | kernel_rfl | rfl | decide +kernel) (by first | k_is | kernel_rfl | rfl | decide +kernel) (by first | k_is | kernel_rfl | rfl | decide +kernel) (by first | k_is | kernel_rfl | rfl | decide +kernel) (by first | k_is | kernel_rfl | rfl | decide +kernel) (by first | k_is | kernel_rfl | rfl | decide +kernel) (fun _ _ _ _ _ _ _ _ _ _ _ _ => rfl)
    · exact K00.bad1_mk (P := PySem.Challenge.rw_eachfive_k00_errors_made.prog) (C := 634) (cn := "BadLabels") (fld := "labels") (tx := "no labelling") KX G (by k_is) (by k_is) (by first | k_is | kernel_rfl | rfl | decide +kernel) (by first | k_is | kernel_rfl | rfl | decide +kernel) (by first | k_is | kernel_rfl | rfl | decide +kernel) (by first | k_is | kernel_rfl | rfl | decide +kernel) (by first | k_is | kernel_rfl | rfl | decide +kernel) (by first | k_is | kernel_rfl | rfl | decide +kernel) (by first | k_is | kernel_rfl | rfl | decide +kernel) (by first | k_is | kernel_rfl | rfl | decide +kernel) (by first | k_is | kernel_rfl | rfl | decide +kernel) (by first | k_is | kernel_rfl | rfl | decide +kernel) (by first | k_is | kernel_rfl | rfl | decide +kernel) (by first | k_is | kernel_rfl | rfl | decide +kernel) ms (by first | k_is | kernel_rfl | rfl | decide +kernel) (by k_is) (by first | k_is | kernel_rfl | rfl | decide +kernel) (by k_is) (by first | k_is | kernel_rfl | rfl | decide +kernel) (by k_is) (by rfl) (by first | k_is | kernel_rfl | rfl | decide +kernel) (by k_is) (by first | k_is | kernel_rfl | rfl | decide +kernel) (by first | k_is | kernel_rfl | rfl | decide +kernel) (by first | k_is | kernel_rfl | rfl | decide +kernel) (by first | k_is | kernel_rfl | rfl | decide +kernel) (by first | k_is | kernel_rfl | rfl | decide +kernel) (by first | k_is | kernel_rfl | rfl | decide +kernel) (fun _ _ _ _ _ _ _ _ _ _ _ _ => rfl)
    · exact K00.bad1_mk (P := PySem.Challenge.rw_eachfive_k00_errors_made.prog) (C := 655) (cn := "BadHexa") (fld := "six") (tx := "no hexaword") KX G (by k_is) (by k_is) (by first | k_is | kernel_rfl | rfl | decide +kernel) (by first | k_is | kernel_rfl | rfl | decide +kernel) (by first | k_is | kernel_rfl | rfl | decide +kernel) (by first | k_is | kernel_rfl | rfl | decide +kernel) (by first | k_is | kernel_rfl | rfl | decide +kernel) (by first | k_is | kernel_rfl | rfl | decide +kernel) (by first | k_is | kernel_rfl | rfl | decide +kernel) (by first | k_is | kernel_rfl | rfl | decide +kernel) (by first | k_is | kernel_rfl | rfl | decide +kernel) (by first | k_is | kernel_rfl | rfl | decide +kernel) (by first | k_is | kernel_rfl | rfl | decide +kernel) (by first | k_is | kernel_rfl | rfl | decide +kernel) ms (by first | k_is | kernel_rfl | rfl | decide +kernel) (by k_is) (by first | k_is | kernel_rfl | rfl | decide +kernel) (by k_is) (by first | k_is | kernel_rfl | rfl | decide +kernel) (by k_is) (by rfl) (by first | k_is | kernel_rfl | rfl | decide +kernel) (by k_is) (by first | k_is | kernel_rfl | rfl | decide +kernel) (by first | k_is | kernel_rfl | rfl | decide +kernel) (by first | k_is | kernel_rfl | rfl | decide +kernel) (by first | k_is | kernel_rfl | rfl | decide +kernel) (by first | k_is | kernel_rfl | rfl | decide +kernel) (by first | k_is | kernel_rfl | rfl | decide +kernel) (fun _ _ _ _ _ _ _ _ _ _ _ _ => rfl)
    · exact K00.bad1_mk (P := PySem.Challenge.rw_eachfive_k00_errors_made.prog) (C := 676) (cn := "BadNode") (fld := "node") (tx := "no other node") KX G (by k_is) (by k_is) (by first | k_is | kernel_rfl | rfl | decide +kernel) (by first | k_is | kernel_rfl | rfl | decide +kernel) (by first | k_is | kernel_rfl | rfl | decide +kernel) (by first | k_is | kernel_rfl | rfl | decide +kernel) (by first | k_is | kernel_rfl | rfl | decide +kernel) (by first | k_is | kernel_rfl | rfl | decide +kernel) (by first | k_is | kernel_rfl | rfl | decide +kernel) (by first | k_is | kernel_rfl | rfl | decide +kernel) (by first | k_is | kernel_rfl | rfl | decide +kernel) (by first | k_is | kernel_rfl | rfl | decide +kernel) (by first | k_is | kernel_rfl | rfl | decide +kernel) (by first | k_is | kernel_rfl | rfl | decide +kernel) ms (by first | k_is | kernel_rfl | rfl | decide +kernel) (by k_is) (by first | k_is | kernel_rfl | rfl | decide +kernel) (by k_is) (by first | k_is | kernel_rfl | rfl | decide +kernel) (by k_is) (by rfl) (by first | k_is | kernel_rfl | rfl | decide +kernel) (by k_is) (by first | k_is | kernel_rfl | rfl | decide +kernel) (by first | k_is | kernel_rfl | rfl | decide +kernel) (by first | k_is | kernel_rfl | rfl | decide +kernel) (by first | k_is | kernel_rfl | rfl | decide +kernel) (by first | k_is | kernel_rfl | rfl | decide +kernel) (by first | k_is | kernel_rfl | rfl | decide +kernel) (fun _ _ _ _ _ _ _ _ _ _ _ _ => rfl)
    · exact K00.bad1_mk (P := PySem.Challenge.rw_eachfive_k00_errors_made.prog) (C := 697) (cn := "BadSignRows") (fld := "rows") (tx := "no sign rows") KX G (by k_is) (by k_is) (by first | k_is | kernel_rfl | rfl | decide +kernel) (by first | k_is | kernel_rfl | rfl | decide +kernel) (by first | k_is | kernel_rfl | rfl | decide +kernel) (by first | k_is | kernel_rfl | rfl | decide +kernel) (by first | k_is | kernel_rfl | rfl | decide +kernel) (by first | k_is | kernel_rfl | rfl | decide +kernel) (by first | k_is | kernel_rfl | rfl | decide +kernel) (by first | k_is | kernel_rfl | rfl | decide +kernel) (by first | k_is | kernel_rfl | rfl | decide +kernel) (by first | k_is | kernel_rfl | rfl | decide +kernel) (by first | k_is | kernel_rfl | rfl | decide +kernel) (by first | k_is | kernel_rfl | rfl | decide +kernel) ms (by first | k_is | kernel_rfl | rfl | decide +kernel) (by k_is) (by first | k_is | kernel_rfl | rfl | decide +kernel) (by k_is) (by first | k_is | kernel_rfl | rfl | decide +kernel) (by k_is) (by rfl) (by first | k_is | kernel_rfl | rfl | decide +kernel) (by k_is) (by first | k_is | kernel_rfl | rfl | decide +kernel) (by first | k_is | kernel_rfl | rfl | decide +kernel) (by first | k_is | kernel_rfl | rfl | decide +kernel) (by first | k_is | kernel_rfl | rfl | decide +kernel) (by first | k_is | kernel_rfl | rfl | decide +kernel) (by first | k_is | kernel_rfl | rfl | decide +kernel) (fun _ _ _ _ _ _ _ _ _ _ _ _ => rfl)
    · exact K00.bad1_mk (P := PySem.Challenge.rw_eachfive_k00_errors_made.prog) (C := 718) (cn := "BadPart") (fld := "part") (tx := "no part of the lot") KX G (by k_is) (by k_is) (by first | k_is | kernel_rfl | rfl | decide +kernel) (by first | k_is | kernel_rfl | rfl | decide +kernel) (by first | k_is | kernel_rfl | rfl | decide +kernel) (by first | k_is | kernel_rfl | rfl | decide +kernel) (by first | k_is | kernel_rfl | rfl | decide +kernel) (by first | k_is | kernel_rfl | rfl | decide +kernel) (by first | k_is | kernel_rfl | rfl | decide +kernel) (by first | k_is | kernel_rfl | rfl | decide +kernel) (by first | k_is | kernel_rfl | rfl | decide +kernel) (by first | k_is | kernel_rfl | rfl | decide +kernel) (by first | k_is | kernel_rfl | rfl | decide +kernel) (by first | k_is | kernel_rfl | rfl | decide +kernel) ms (by first | k_is | kernel_rfl | rfl | decide +kernel) (by k_is) (by first | k_is | kernel_rfl | rfl | decide +kernel) (by k_is) (by first | k_is | kernel_rfl | rfl | decide +kernel) (by k_is) (by rfl) (by first | k_is | kernel_rfl | rfl | decide +kernel) (by k_is) (by first | k_is | kernel_rfl | rfl | decide +kernel) (by first | k_is | kernel_rfl | rfl | decide +kernel) (by first | k_is | kernel_rfl | rfl | decide +kernel) (by first | k_is | kernel_rfl | rfl | decide +kernel) (by first | k_is | kernel_rfl | rfl | decide +kernel) (by first | k_is | kernel_rfl | rfl | decide +kernel) (fun _ _ _ _ _ _ _ _ _ _ _ _ => rfl)
    · exact K00.bad1_mk (P := PySem.Challenge.rw_eachfive_k00_errors_made.prog) (C := 739) (cn := "BadRing") (fld := "ring") (tx := "no ring") KX G (by k_is) (by k_is) (by first | k_is | kernel_rfl | rfl | decide +kernel) (by first | k_is | kernel_rfl | rfl | decide +kernel) (by first | k_is | kernel_rfl | rfl | decide +kernel) (by first | k_is | kernel_rfl | rfl | decide +kernel) (by first | k_is | kernel_rfl | rfl | decide +kernel) (by first | k_is | kernel_rfl | rfl | decide +kernel) (by first | k_is | kernel_rfl | rfl | decide +kernel) (by first | k_is | kernel_rfl | rfl | decide +kernel) (by first | k_is | kernel_rfl | rfl | decide +kernel) (by first | k_is | kernel_rfl | rfl | decide +kernel) (by first | k_is | kernel_rfl | rfl | decide +kernel) (by first | k_is | kernel_rfl | rfl | decide +kernel) ms (by first | k_is | kernel_rfl | rfl | decide +kernel) (by k_is) (by first | k_is | kernel_rfl | rfl | decide +kernel) (by k_is) (by first | k_is | kernel_rfl | rfl | decide +kernel) (by k_is) (by rfl) (by first | k_is | kernel_rfl | rfl | decide +kernel) (by k_is) (by first | k_is | kernel_rfl | rfl | decide +kernel) (by first | k_is | kernel_rfl | rfl | decide +kernel) (by first | k_is | kernel_rfl | rfl | decide +kernel) (by first | k_is | kernel_rfl | rfl | decide +kernel) (by first | k_is | kernel_rfl | rfl | decide +kernel) (by first | k_is | kernel_rfl | rfl | decide +kernel) (fun _ _ _ _ _ _ _ _ _ _ _ _ => rfl)
    · exact K00.bad1_mk (P := PySem.Challenge.rw_eachfive_k00_errors_made.prog) (C := 760) (cn := "BadPlaces") (fld := "places") (tx := "no places") KX G (by k_is) (by k_is) (by first | k_is | kernel_rfl | rfl | decide +kernel) (by first | k_is | kernel_rfl | rfl | decide +kernel) (by first | k_is | kernel_rfl | rfl | decide +kernel) (by first | k_is | kernel_rfl | rfl | decide +kernel) (by first | k_is | kernel_rfl | rfl | decide +kernel) (by first | k_is | kernel_rfl | rfl | decide +kernel) (by first | k_is | kernel_rfl | rfl | decide +kernel) (by first | k_is | kernel_rfl | rfl | decide +kernel) (by first | k_is | kernel_rfl | rfl | decide +kernel) (by first | k_is | kernel_rfl | rfl | decide +kernel) (by first | k_is | kernel_rfl | rfl | decide +kernel) (by first | k_is | kernel_rfl | rfl | decide +kernel) ms (by first | k_is | kernel_rfl | rfl | decide +kernel) (by k_is) (by first | k_is | kernel_rfl | rfl | decide +kernel) (by k_is) (by first | k_is | kernel_rfl | rfl | decide +kernel) (by k_is) (by rfl) (by first | k_is | kernel_rfl | rfl | decide +kernel) (by k_is) (by first | k_is | kernel_rfl | rfl | decide +kernel) (by first | k_is | kernel_rfl | rfl | decide +kernel) (by first | k_is | kernel_rfl | rfl | decide +kernel) (by first | k_is | kernel_rfl | rfl | decide +kernel) (by first | k_is | kernel_rfl | rfl | decide +kernel) (by first | k_is | kernel_rfl | rfl | decide +kernel) (fun _ _ _ _ _ _ _ _ _ _ _ _ => rfl)
    · exact K00.bad1_mk (P := PySem.Challenge.rw_eachfive_k00_errors_made.prog) (C := 781) (cn := "BadTrust") (fld := "trust") (tx := "no trust") KX G (by k_is) (by k_is) (by first | k_is | kernel_rfl | rfl | decide +kernel) (by first | k_is | kernel_rfl | rfl | decide +kernel) (by first | k_is | kernel_rfl | rfl | decide +kernel) (by first | k_is | kernel_rfl | rfl | decide +kernel) (by first | k_is | kernel_rfl | rfl | decide +kernel) (by first | k_is | kernel_rfl | rfl | decide +kernel) (by first | k_is | kernel_rfl | rfl | decide +kernel) (by first | k_is | kernel_rfl | rfl | decide +kernel) (by first | k_is | kernel_rfl | rfl | decide +kernel) (by first | k_is | kernel_rfl | rfl | decide +kernel) (by first | k_is | kernel_rfl | rfl | decide +kernel) (by first | k_is | kernel_rfl | rfl | decide +kernel) ms (by first | k_is | kernel_rfl | rfl | decide +kernel) (by k_is) (by first | k_is | kernel_rfl | rfl | decide +kernel) (by k_is) (by first | k_is | kernel_rfl | rfl | decide +kernel) (by k_is) (by rfl) (by first | k_is | kernel_rfl | rfl | decide +kernel) (by k_is) (by first | k_is | kernel_rfl | rfl | decide +kernel) (by first | k_is | kernel_rfl | rfl | decide +kernel) (by first | k_is | kernel_rfl | rfl | decide +kernel) (by first | k_is | kernel_rfl | rfl | decide +kernel) (by first | k_is | kernel_rfl | rfl | decide +kernel) (by first | k_is | kernel_rfl | rfl | decide +kernel) (fun _ _ _ _ _ _ _ _ _ _ _ _ => rfl)
    · exact K00.bad1_mk (P := PySem.Challenge.rw_eachfive_k00_errors_made.prog) (C := 802) (cn := "BadWords") (fld := "words") (tx := "no list of words") KX G (by k_is) (by k_is) (by first | k_is | kernel_rfl | rfl | decide +kernel) (by first | k_is | kernel_rfl | rfl | decide +kernel) (by first | k_is | kernel_rfl | rfl | decide +kernel) (by first | k_is | kernel_rfl | rfl | decide +kernel) (by first | k_is | kernel_rfl | rfl | decide +kernel) (by first | k_is | kernel_rfl | rfl | decide +kernel) (by first | k_is | kernel_rfl | rfl | decide +kernel) (by first | k_is | kernel_rfl | rfl | decide +kernel) (by first | k_is | kernel_rfl | rfl | decide +kernel) (by first | k_is | kernel_rfl | rfl | decide +kernel) (by first | k_is | kernel_rfl | rfl | decide +kernel) (by first | k_is | kernel_rfl | rfl | decide +kernel) ms (by first | k_is | kernel_rfl | rfl | decide +kernel) (by k_is) (by first | k_is | kernel_rfl | rfl | decide +kernel) (by k_is) (by first | k_is | kernel_rfl | rfl | decide +kernel) (by k_is) (by rfl) (by first | k_is | kernel_rfl | rfl | decide +kernel) (by k_is) (by first | k_is | kernel_rfl | rfl | decide +kernel) (by first | k_is | kernel_rfl | rfl | decide +kernel) (by first | k_is | kernel_rfl | rfl | decide +kernel) (by first | k_is | kernel_rfl | rfl | decide +kernel) (by first | k_is | kernel_rfl | rfl | decide +kernel) (by first | k_is | kernel_rfl | rfl | decide +kernel) (fun _ _ _ _ _ _ _ _ _ _ _ _ => rfl)
    · exact K00.bad1_mk (P := PySem.Challenge.rw_eachfive_k00_errors_made.prog) (C := 823) (cn := "BadShape") (fld := "shape") (tx := "no shape") KX G (by k_is) (by k_is) (by first | k_is | kernel_rfl | rfl | decide +kernel) (by first | k_is | kernel_rfl | rfl | decide +kernel) (by first | k_is | kernel_rfl | rfl | decide +kernel) (by first | k_is | kernel_rfl | rfl | decide +kernel) (by first | k_is | kernel_rfl | rfl | decide +kernel) (by first | k_is | kernel_rfl | rfl | decide +kernel) (by first | k_is | kernel_rfl | rfl | decide +kernel) (by first | k_is | kernel_rfl | rfl | decide +kernel) (by first | k_is | kernel_rfl | rfl | decide +kernel) (by first | k_is | kernel_rfl | rfl | decide +kernel) (by first | k_is | kernel_rfl | rfl | decide +kernel) (by first | k_is | kernel_rfl | rfl | decide +kernel) ms (by first | k_is | kernel_rfl | rfl | decide +kernel) (by k_is) (by first | k_is | kernel_rfl | rfl | decide +kernel) (by k_is) (by first | k_is | kernel_rfl | rfl | decide +kernel) (by k_is) (by rfl) (by first | k_is | kernel_rfl | rfl | decide +kernel) (by k_is) (by first | k_is | kernel_rfl | rfl | decide +kernel) (by first | k_is | kernel_rfl | rfl | decide +kernel) (by first | k_is | kernel_rfl | rfl | decide +kernel) (by first | k_is | kernel_rfl | rfl | decide +kernel) (by first | k_is | kernel_rfl | rfl | decide +kernel) (by first | k_is | kernel_rfl | rfl | decide +kernel) (fun _ _ _ _ _ _ _ _ _ _ _ _ => rfl)
    · exact K00.bad1_mk (P := PySem.Challenge.rw_eachfive_k00_errors_made.prog) (C := 844) (cn := "Within") (fld := "name") (tx := "in the lot") KX G (by k_is) (by k_is) (by first | k_is | kernel_rfl | rfl | decide +kernel) (by first | k_is | kernel_rfl | rfl | decide +kernel) (by first | k_is | kernel_rfl | rfl | decide +kernel) (by first | k_is | kernel_rfl | rfl | decide +kernel) (by first | k_is | kernel_rfl | rfl | decide +kernel) (by first | k_is | kernel_rfl | rfl | decide +kernel) (by first | k_is | kernel_rfl | rfl | decide +kernel) (by first | k_is | kernel_rfl | rfl | decide +kernel) (by first | k_is | kernel_rfl | rfl | decide +kernel) (by first | k_is | kernel_rfl | rfl | decide +kernel) (by first | k_is | kernel_rfl | rfl | decide +kernel) (by first | k_is | kernel_rfl | rfl | decide +kernel) ms (by first | k_is | kernel_rfl | rfl | decide +kernel) (by k_is) (by first | k_is | kernel_rfl | rfl | decide +kernel) (by k_is) (by first | k_is | kernel_rfl | rfl | decide +kernel) (by k_is) (by rfl) (by first | k_is | kernel_rfl | rfl | decide +kernel) (by k_is) (by first | k_is | kernel_rfl | rfl | decide +kernel) (by first | k_is | kernel_rfl | rfl | decide +kernel) (by first | k_is | kernel_rfl | rfl | decide +kernel) (by first | k_is | kernel_rfl | rfl | decide +kernel) (by first | k_is | kernel_rfl | rfl | decide +kernel) (by first | k_is | kernel_rfl | rfl | decide +kernel) (fun _ _ _ _ _ _ _ _ _ _ _ _ => rfl)
    · exact K00.bad1_mk (P := PySem.Challenge.rw_eachfive_k00_errors_made.prog) (C := 865) (cn := "Without") (fld := "name") (tx := "not in the lot") KX G (by k_is) (by k_is) (by first | k_is | kernel_rfl | rfl | decide +kernel) (by first | k_is | kernel_rfl | rfl | decide +kernel) (by first | k_is | kernel_rfl | rfl | decide +kernel) (by first | k_is | kernel_rfl | rfl | decide +kernel) (by first | k_is | kernel_rfl | rfl | decide +kernel) (by first | k_is | kernel_rfl | rfl | decide +kernel) (by first | k_is | kernel_rfl | rfl | decide +kernel) (by first | k_is | kernel_rfl | rfl | decide +kernel) (by first | k_is | kernel_rfl | rfl | decide +kernel) (by first | k_is | kernel_rfl | rfl | decide +kernel) (by first | k_is | kernel_rfl | rfl | decide +kernel) (by first | k_is | kernel_rfl | rfl | decide +kernel) ms (by first | k_is | kernel_rfl | rfl | decide +kernel) (by k_is) (by first | k_is | kernel_rfl | rfl | decide +kernel) (by k_is) (by first | k_is | kernel_rfl | rfl | decide +kernel) (by k_is) (by rfl) (by first | k_is | kernel_rfl | rfl | decide +kernel) (by k_is) (by first | k_is | kernel_rfl | rfl | decide +kernel) (by first | k_is | kernel_rfl | rfl | decide +kernel) (by first | k_is | kernel_rfl | rfl | decide +kernel) (by first | k_is | kernel_rfl | rfl | decide +kernel) (by first | k_is | kernel_rfl | rfl | decide +kernel) (by first | k_is | kernel_rfl | rfl | decide +kernel) (fun _ _ _ _ _ _ _ _ _ _ _ _ => rfl)
    · exact K00.bad1_mk (P := PySem.Challenge.rw_eachfive_k00_errors_made.prog) (C := 928) (cn := "BadStep") (fld := "step") (tx := "no step") KX G (by k_is) (by k_is) (by first | k_is | kernel_rfl | rfl | decide +kernel) (by first | k_is | kernel_rfl | rfl | decide +kernel) (by first | k_is | kernel_rfl | rfl | decide +kernel) (by first | k_is | kernel_rfl | rfl | decide +kernel) (by first | k_is | kernel_rfl | rfl | decide +kernel) (by first | k_is | kernel_rfl | rfl | decide +kernel) (by first | k_is | kernel_rfl | rfl | decide +kernel) (by first | k_is | kernel_rfl | rfl | decide +kernel) (by first | k_is | kernel_rfl | rfl | decide +kernel) (by first | k_is | kernel_rfl | rfl | decide +kernel) (by first | k_is | kernel_rfl | rfl | decide +kernel) (by first | k_is | kernel_rfl | rfl | decide +kernel) ms (by first | k_is | kernel_rfl | rfl | decide +kernel) (by k_is) (by first | k_is | kernel_rfl | rfl | decide +kernel) (by k_is) (by first | k_is | kernel_rfl | rfl | decide +kernel) (by k_is) (by rfl) (by first | k_is | kernel_rfl | rfl | decide +kernel) (by k_is) (by first | k_is | kernel_rfl | rfl | decide +kernel) (by first | k_is | kernel_rfl | rfl | decide +kernel) (by first | k_is | kernel_rfl | rfl | decide +kernel) (by first | k_is | kernel_rfl | rfl | decide +kernel) (by first | k_is | kernel_rfl | rfl | decide +kernel) (by first | k_is | kernel_rfl | rfl | decide +kernel) (fun _ _ _ _ _ _ _ _ _ _ _ _ => rfl)
    · exact K00.bad1_mk (P := PySem.Challenge.rw_eachfive_k00_errors_made.prog) (C := 949) (cn := "BadSteps") (fld := "steps") (tx := "no steps") KX G (by k_is) (by k_is) (by first | k_is | kernel_rfl | rfl | decide +kernel) (by first | k_is | kernel_rfl | rfl | decide +kernel) (by first | k_is | kernel_rfl | rfl | decide +kernel) (by first | k_is | kernel_rfl | rfl | decide +kernel) (by first | k_is | kernel_rfl | rfl | decide +kernel) (by first | k_is | kernel_rfl | rfl | decide +kernel) (by first | k_is | kernel_rfl | rfl | decide +kernel) (by first | k_is | kernel_rfl | rfl | decide +kernel) (by first | k_is | kernel_rfl | rfl | decide +kernel) (by first | k_is | kernel_rfl | rfl | decide +kernel) (by first | k_is | kernel_rfl | rfl | decide +kernel) (by first | k_is | kernel_rfl | rfl | decide +kernel) ms (by first | k_is | kernel_rfl | rfl | decide +kernel) (by k_is) (by first | k_is | kernel_rfl | rfl | decide +kernel) (by k_is) (by first | k_is | kernel_rfl | rfl | decide +kernel) (by k_is) (by rfl) (by first | k_is | kernel_rfl | rfl | decide +kernel) (by k_is) (by first | k_is | kernel_rfl | rfl | decide +kernel) (by first | k_is | kernel_rfl | rfl | decide +kernel) (by first | k_is | kernel_rfl | rfl | decide +kernel) (by first | k_is | kernel_rfl | rfl | decide +kernel) (by first | k_is | kernel_rfl | rfl | decide +kernel) (by first | k_is | kernel_rfl | rfl | decide +kernel) (fun _ _ _ _ _ _ _ _ _ _ _ _ => rfl)
    · exact K00.bad1_mk (P := PySem.Challenge.rw_eachfive_k00_errors_made.prog) (C := 970) (cn := "Refused") (fld := "fault") (tx := "refused") KX G (by k_is) (by k_is) (by first | k_is | kernel_rfl | rfl | decide +kernel) (by first | k_is | kernel_rfl | rfl | decide +kernel) (by first | k_is | kernel_rfl | rfl | decide +kernel) (by first | k_is | kernel_rfl | rfl | decide +kernel) (by first | k_is | kernel_rfl | rfl | decide +kernel) (by first | k_is | kernel_rfl | rfl | decide +kernel) (by first | k_is | kernel_rfl | rfl | decide +kernel) (by first | k_is | kernel_rfl | rfl | decide +kernel) (by first | k_is | kernel_rfl | rfl | decide +kernel) (by first | k_is | kernel_rfl | rfl | decide +kernel) (by first | k_is | kernel_rfl | rfl | decide +kernel) (by first | k_is | kernel_rfl | rfl | decide +kernel) ms (by first | k_is | kernel_rfl | rfl | decide +kernel) (by k_is) (by first | k_is | kernel_rfl | rfl | decide +kernel) (by k_is) (by first | k_is | kernel_rfl | rfl | decide +kernel) (by k_is) (by rfl) (by first | k_is | kernel_rfl | rfl | decide +kernel) (by k_is) (by first | k_is | kernel_rfl | rfl | decide +kernel) (by first | k_is | kernel_rfl | rfl | decide +kernel) (by first | k_is | kernel_rfl | rfl | decide +kernel) (by first | k_is | kernel_rfl | rfl | decide +kernel) (by first | k_is | kernel_rfl | rfl | decide +kernel) (by first | k_is | kernel_rfl | rfl | decide +kernel) (fun _ _ _ _ _ _ _ _ _ _ _ _ => rfl)
    · exact K00.bad1_mk (P := PySem.Challenge.rw_eachfive_k00_errors_made.prog) (C := 1012) (cn := "BadJournal") (fld := "journal") (tx := "no right journal") KX G (by k_is) (by k_is) (by first | k_is | kernel_rfl | rfl | decide +kernel) (by first | k_is | kernel_rfl | rfl | decide +kernel) (by first | k_is | kernel_rfl | rfl | decide +kernel) (by first | k_is | kernel_rfl | rfl | decide +kernel) (by first | k_is | kernel_rfl | rfl | decide +kernel) (by first | k_is | kernel_rfl | rfl | decide +kernel) (by first | k_is | kernel_rfl | rfl | decide +kernel) (by first | k_is | kernel_rfl | rfl | decide +kernel) (by first | k_is | kernel_rfl | rfl | decide +kernel) (by first | k_is | kernel_rfl | rfl | decide +kernel) (by first | k_is | kernel_rfl | rfl | decide +kernel) (by first | k_is | kernel_rfl | rfl | decide +kernel) ms (by first | k_is | kernel_rfl | rfl | decide +kernel) (by k_is) (by first | k_is | kernel_rfl | rfl | decide +kernel) (by k_is) (by first | k_is | kernel_rfl | rfl | decide +kernel) (by k_is) (by rfl) (by first | k_is | kernel_rfl | rfl | decide +kernel) (by k_is) (by first | k_is | kernel_rfl | rfl | decide +kernel) (by first | k_is | kernel_rfl | rfl | decide +kernel) (by first | k_is | kernel_rfl | rfl | decide +kernel) (by first | k_is | kernel_rfl | rfl | decide +kernel) (by first | k_is | kernel_rfl | rfl | decide +kernel) (by first | k_is | kernel_rfl | rfl | decide +kernel) (fun _ _ _ _ _ _ _ _ _ _ _ _ => rfl)
    · exact K00.bad1_mk (P := PySem.Challenge.rw_eachfive_k00_errors_made.prog) (C := 1033) (cn := "BadNumbering") (fld := "numbering") (tx := "no numbering") KX G (by k_is) (by k_is) (by first | k_is | kernel_rfl | rfl | decide +kernel) (by first | k_is | kernel_rfl | rfl | decide +kernel) (by first | k_is | kernel_rfl | rfl | decide +kernel) (by first | k_is | kernel_rfl | rfl | decide +kernel) (by first | k_is | kernel_rfl | rfl | decide +kernel) (by first | k_is | kernel_rfl | rfl | decide +kernel) (by first | k_is | kernel_rfl | rfl | decide +kernel) (by first | k_is | kernel_rfl | rfl | decide +kernel) (by first | k_is | kernel_rfl | rfl | decide +kernel) (by first | k_is | kernel_rfl | rfl | decide +kernel) (by first | k_is | kernel_rfl | rfl | decide +kernel) (by first | k_is | kernel_rfl | rfl | decide +kernel) ms (by first | k_is | kernel_rfl | rfl | decide +kernel) (by k_is) (by first | k_is | kernel_rfl | rfl | decide +kernel) (by k_is) (by first | k_is | kernel_rfl | rfl | decide +kernel) (by k_is) (by rfl) (by first | k_is | kernel_rfl | rfl | decide +kernel) (by k_is) (by first | k_is | kernel_rfl | rfl | decide +kernel) (by first | k_is | kernel_rfl | rfl | decide +kernel) (by first | k_is | kernel_rfl | rfl | decide +kernel) (by first | k_is | kernel_rfl | rfl | decide +kernel) (by first | k_is | kernel_rfl | rfl | decide +kernel) (by first | k_is | kernel_rfl | rfl | decide +kernel) (fun _ _ _ _ _ _ _ _ _ _ _ _ => rfl)
    · exact K00.bad1_mk (P := PySem.Challenge.rw_eachfive_k00_errors_made.prog) (C := 1054) (cn := "BadVector") (fld := "vector") (tx := "no vector") KX G (by k_is) (by k_is) (by first | k_is | kernel_rfl | rfl | decide +kernel) (by first | k_is | kernel_rfl | rfl | decide +kernel) (by first | k_is | kernel_rfl | rfl | decide +kernel) (by first | k_is | kernel_rfl | rfl | decide +kernel) (by first | k_is | kernel_rfl | rfl | decide +kernel) (by first | k_is | kernel_rfl | rfl | decide +kernel) (by first | k_is | kernel_rfl | rfl | decide +kernel) (by first | k_is | kernel_rfl | rfl | decide +kernel) (by first | k_is | kernel_rfl | rfl | decide +kernel) (by first | k_is | kernel_rfl | rfl | decide +kernel) (by first | k_is | kernel_rfl | rfl | decide +kernel) (by first | k_is | kernel_rfl | rfl | decide +kernel) ms (by first | k_is | kernel_rfl | rfl | decide +kernel) (by k_is) (by first | k_is | kernel_rfl | rfl | decide +kernel) (by k_is) (by first | k_is | kernel_rfl | rfl | decide +kernel) (by k_is) (by rfl) (by first | k_is | kernel_rfl | rfl | decide +kernel) (by k_is) (by first | k_is | kernel_rfl | rfl | decide +kernel) (by first | k_is | kernel_rfl | rfl | decide +kernel) (by first | k_is | kernel_rfl | rfl | decide +kernel) (by first | k_is | kernel_rfl | rfl | decide +kernel) (by first | k_is | kernel_rfl | rfl | decide +kernel) (by first | k_is | kernel_rfl | rfl | decide +kernel) (fun _ _ _ _ _ _ _ _ _ _ _ _ => rfl)
    · exact K00.bad1_mk (P := PySem.Challenge.rw_eachfive_k00_errors_made.prog) (C := 1075) (cn := "NoVector") (fld := "index") (tx := "no vector of this index") KX G (by k_is) (by k_is) (by first | k_is | kernel_rfl | rfl | decide +kernel) (by first | k_is | kernel_rfl | rfl | decide +kernel) (by first | k_is | kernel_rfl | rfl | decide +kernel) (by first | k_is | kernel_rfl | rfl | decide +kernel) (by first | k_is | kernel_rfl | rfl | decide +kernel) (by first | k_is | kernel_rfl | rfl | decide +kernel) (by first | k_is | kernel_rfl | rfl | decide +kernel) (by first | k_is | kernel_rfl | rfl | decide +kernel) (by first | k_is | kernel_rfl | rfl | decide +kernel) (by first | k_is | kernel_rfl | rfl | decide +kernel) (by first | k_is | kernel_rfl | rfl | decide +kernel) (by first | k_is | kernel_rfl | rfl | decide +kernel) ms (by first | k_is | kernel_rfl | rfl | decide +kernel) (by k_is) (by first | k_is | kernel_rfl | rfl | decide +kernel) (by k_is) (by first | k_is | kernel_rfl | rfl | decide +kernel) (by k_is) (by rfl) (by first | k_is | kernel_rfl | rfl | decide +kernel) (by k_is) (by first | k_is | kernel_rfl | rfl | decide +kernel) (by first | k_is | kernel_rfl | rfl | decide +kernel) (by first | k_is | kernel_rfl | rfl | decide +kernel) (by first | k_is | kernel_rfl | rfl | decide +kernel) (by first | k_is | kernel_rfl | rfl | decide +kernel) (by first | k_is | kernel_rfl | rfl | decide +kernel) (fun _ _ _ _ _ _ _ _ _ _ _ _ => rfl)
    · exact K00.bad1_mk (P := PySem.Challenge.rw_eachfive_k00_errors_made.prog) (C := 1096) (cn := "TooGreat") (fld := "name") (tx := "too great a number") KX G (by k_is) (by k_is) (by first | k_is | kernel_rfl | rfl | decide +kernel) (by first | k_is | kernel_rfl | rfl | decide +kernel) (by first | k_is | kernel_rfl | rfl | decide +kernel) (by first | k_is | kernel_rfl | rfl | decide +kernel) (by first | k_is | kernel_rfl | rfl | decide +kernel) (by first | k_is | kernel_rfl | rfl | decide +kernel) (by first | k_is | kernel_rfl | rfl | decide +kernel) (by first | k_is | kernel_rfl | rfl | decide +kernel) (by first | k_is | kernel_rfl | rfl | decide +kernel) (by first | k_is | kernel_rfl | rfl | decide +kernel) (by first | k_is | kernel_rfl | rfl | decide +kernel) (by first | k_is | kernel_rfl | rfl | decide +kernel) ms (by first | k_is | kernel_rfl | rfl | decide +kernel) (by k_is) (by first | k_is | kernel_rfl | rfl | decide +kernel) (by k_is) (by first | k_is | kernel_rfl | rfl | decide +kernel) (by k_is) (by rfl) (by first | k_is | kernel_rfl | rfl | decide +kernel) (by k_is) (by first | k_is | kernel_rfl | rfl | decide +kernel) (by first | k_is | kernel_rfl | rfl | decide +kernel) (by first | k_is | kernel_rfl | rfl | decide +kernel) (by first | k_is | kernel_rfl | rfl | decide +kernel) (by first | k_is | kernel_rfl | rfl | decide +kernel) (by first | k_is | kernel_rfl | rfl | decide +kernel) (fun _ _ _ _ _ _ _ _ _ _ _ _ => rfl)
    · exact K00.bad2_mk (P := PySem.Challenge.rw_eachfive_k00_errors_made.prog) (C := 991) (cn := "BadText") (tx := "no such text") KX G (by k_is) (by k_is) (by first | k_is | kernel_rfl | rfl | decide +kernel) (by first | k_is | kernel_rfl | rfl | decide +kernel) (by first | k_is | kernel_rfl | rfl | decide +kernel) (by first | k_is | kernel_rfl | rfl | decide +kernel) (by first | k_is | kernel_rfl | rfl | decide +kernel) (by first | k_is | kernel_rfl | rfl | decide +kernel) (by first | k_is | kernel_rfl | rfl | decide +kernel) (by first | k_is | kernel_rfl | rfl | decide +kernel) (by first | k_is | kernel_rfl | rfl | decide +kernel) (by first | k_is | kernel_rfl | rfl | decide +kernel) (by first | k_is | kernel_rfl | rfl | decide +kernel) (by first | k_is | kernel_rfl | rfl | decide +kernel) (by first | k_is | kernel_rfl | rfl | decide +kernel) ms (by first | k_is | kernel_rfl | rfl | decide +kernel) (by k_is) (by first | k_is | kernel_rfl | rfl | decide +kernel) (by k_is) (by first | k_is | kernel_rfl | rfl | decide +kernel) (by k_is) (by rfl) (by first | k_is | kernel_rfl | rfl | decide +kernel) (by k_is) (by first | k_is | kernel_rfl | rfl | decide +kernel) (by first | k_is | kernel_rfl | rfl | decide +kernel)
    · exact K00.bad0_mk (p2 := ⟨0, 0, 0, 0⟩) (p3 := ⟨0, 0, 0, 0⟩) (q1 := ⟨0, 0, 0, 0⟩) (q2 := ⟨0, 0, 0, 0⟩) (q3 := ⟨0, 0, 0, 0⟩) (q4 := ⟨0, 0, 0, 0⟩) (q5 := ⟨0, 0, 0, 0⟩) (q6 := ⟨0, 0, 0, 0⟩) (q7 := ⟨0, 0, 0, 0⟩) (q8 := ⟨0, 0, 0, 0⟩) (P := PySem.Challenge.rw_eachfive_k00_errors_made.prog) (C := 886) (cn := "NothingDone") (tx := "nothing done") KX G (by k_is) (by k_is) (by first | k_is | kernel_rfl | rfl | decide +kernel) (by first | k_is | kernel_rfl | rfl | decide +kernel) (by first | k_is | kernel_rfl | rfl | decide +kernel) (by first | k_is | kernel_rfl | rfl | decide +kernel) (by first | k_is | kernel_rfl | rfl | decide +kernel) (by first | k_is | kernel_rfl | rfl | decide +kernel) (by first | k_is | kernel_rfl | rfl | decide +kernel) (by first | k_is | kernel_rfl | rfl | decide +kernel) (by first | k_is | kernel_rfl | rfl | decide +kernel) (by first | k_is | kernel_rfl | rfl | decide +kernel) (by first | k_is | kernel_rfl | rfl | decide +kernel) ms (by first | k_is | kernel_rfl | rfl | decide +kernel) (by k_is) (by first | k_is | kernel_rfl | rfl | decide +kernel) (by k_is) (by first | k_is | kernel_rfl | rfl | decide +kernel) (by k_is) (by rfl) (by first | k_is | kernel_rfl | rfl | decide +kernel) (by k_is) (by first | k_is | kernel_rfl | rfl | decide +kernel) (by first | k_is | kernel_rfl | rfl | decide +kernel)
    · exact K00.bad0_mk (p2 := ⟨0, 0, 0, 0⟩) (p3 := ⟨0, 0, 0, 0⟩) (q1 := ⟨0, 0, 0, 0⟩) (q2 := ⟨0, 0, 0, 0⟩) (q3 := ⟨0, 0, 0, 0⟩) (q4 := ⟨0, 0, 0, 0⟩) (q5 := ⟨0, 0, 0, 0⟩) (q6 := ⟨0, 0, 0, 0⟩) (q7 := ⟨0, 0, 0, 0⟩) (q8 := ⟨0, 0, 0, 0⟩) (P := PySem.Challenge.rw_eachfive_k00_errors_made.prog) (C := 907) (cn := "NothingUndone") (tx := "nothing undone") KX G (by k_is) (by k_is) (by first | k_is | kernel_rfl | rfl | decide +kernel) (by first | k_is | kernel_rfl | rfl | decide +kernel) (by first | k_is | kernel_rfl | rfl | decide +kernel) (by first | k_is | kernel_rfl | rfl | decide +kernel) (by first | k_is | kernel_rfl | rfl | decide +kernel) (by first | k_is | kernel_rfl | rfl | decide +kernel) (by first | k_is | kernel_rfl | rfl | decide +kernel) (by first | k_is | kernel_rfl | rfl | decide +kernel) (by first | k_is | kernel_rfl | rfl | decide +kernel) (by first | k_is | kernel_rfl | rfl | decide +kernel) (by first | k_is | kernel_rfl | rfl | decide +kernel) ms (by first | k_is | kernel_rfl | rfl | decide +kernel) (by k_is) (by first | k_is | kernel_rfl | rfl | decide +kernel) (by k_is) (by first | k_is | kernel_rfl | rfl | decide +kernel) (by k_is) (by rfl) (by first | k_is | kernel_rfl | rfl | decide +kernel) (by k_is) (by first | k_is | kernel_rfl | rfl | decide +kernel) (by first | k_is | kernel_rfl | rfl | decide +kernel)
    · exact mg_of KX G (by k_is)
    · exact K00.fun_both (x := "_law_spring") (qual := "_law_spring") (st := K00.s__law_spring) KX G (by k_is) (by k_is) (by k_is) (by k_is)
    · exact K00.fun_both (x := "_law_draw") (qual := "_law_draw") (st := K00.s__law_draw) KX G (by k_is) (by k_is) (by k_is) (by k_is)
    · exact K00.fun_both (x := "_law_pick") (qual := "_law_pick") (st := K00.s__law_pick) KX G (by k_is) (by k_is) (by k_is) (by k_is)
    · exact K00.fun_both (x := "_law_e_kinds") (qual := "_law_e_kinds") (st := K00.s__law_e_kinds) KX G (by k_is) (by k_is) (by k_is) (by k_is)
    · exact K00.fun_both (x := "_law_e_drawn") (qual := "_law_e_drawn") (st := K00.s__law_e_drawn) KX G (by k_is) (by k_is) (by k_is) (by k_is)
    · exact K00.fun_both (x := "_law_e_right") (qual := "_law_e_right") (st := K00.s__law_e_right) KX G (by k_is) (by k_is) (by k_is) (by k_is)
    · exact K00.fun_both (x := "law") (qual := "law") (st := K00.s_law) KX G (by k_is) (by k_is) (by k_is) (by k_is)
    · exact K00.fun_both (x := "_law_same") (qual := "_law_same") (st := K00.s__law_same) KX G (by k_is) (by k_is) (by k_is) (by k_is)
    · exact K00.fun_both (x := "_law_very") (qual := "_law_very") (st := K00.s__law_very) KX G (by k_is) (by k_is) (by k_is) (by k_is)
    · exact K00.lam_mk (n := "_law_e_first") (st := K00.s__law_e_first) (P := 1138) KX G (by k_is) (by k_is) (by k_is) (by k_is) (by kernel_rfl)
    · exact K00.lam_mk (n := "_law_e_second") (st := K00.s__law_e_second) (P := 1145) KX G (by k_is) (by k_is) (by k_is) (by k_is) (by kernel_rfl)
    · exact K00.lam_mk (n := "_law_e_third") (st := K00.s__law_e_third) (P := 1152) KX G (by k_is) (by k_is) (by k_is) (by k_is) (by kernel_rfl)
    · exact K00.lam_mk (n := "_law_e_fourth") (st := K00.s__law_e_fourth) (P := 1159) KX G (by k_is) (by k_is) (by k_is) (by k_is) (by kernel_rfl)
